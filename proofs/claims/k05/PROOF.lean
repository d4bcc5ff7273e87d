import PyProof.Rows.All
import Wide.All
import OpenK.AllK
import Wide.FinOn
import KE.KStateDown
import Lean
import HandS.Base
import HandS.Call
import HandS.Ends
import HandS.More
import HandS.Words
import HandS.WordsExc
import HandS.Defaults
import HandS.ForMost
import HandS.TupAny
import HandS.Zip
import HandS.IsInst
import HandS.Wide
import KE.GoesMore
import HandS.Dict
import KE.KRevSl
import PyProof.EqAt
import PyProof.NeKinds
import HandS.Style
import HandS.SetKeys
import KE.KDictPairs
import KE.KDictCopyH
import HandS.DictComp
import HandS.TryOnly
import HandS.Head0
import HandS.Head1
import HandS.Head2
import HandS.HeadEnd
import HandS.HeadHook1
import HandS.HeadHook2
import PySem.Challenge.RW_needfill_k05_whole_fitted_and_filled
set_option Elab.async false
set_option linter.all false
set_option maxRecDepth 100000
set_option maxHeartbeats 4000000
set_option autoImplicit false
/-! DLP: data by values, memory by places, and what Python's constructs ask of them. -/
namespace DL
open PySem

abbrev Key := Sum Int Str
/-- sizes that are safe everywhere -/
abbrev SZ : Nat := 100000

/-- data: what never changes is told by value; .ref is an object of the memory -/
inductive D where
  | non | bl (b : Bool) | int (i : Int) | str (x : Str) | ref (a : Addr)
  | tup (xs : List D) | lst (xs : List D) | rol (xs : List D)
  | dK (ks : List Key) (vs : List D) | dT (ks : List (List Key)) (vs : List D)
  | ins (C : Addr) (ns : List Str) (vs : List D)
  | ty (n : String) | cls (C : Addr)

/-- what stands at a place of the memory -/
inductive MO where
  | lst (xs : List D)
  | dK (ks : List Key) (vs : List D)
  | dT (ks : List (List Key)) (vs : List D)
  | ins (C : Addr) (ns : List Str) (vs : List D)
  | tupP (xs : List D)
  | deck (kind : Nat) (b : Nat)
  | part (a : Addr)

abbrev Mem := Addr → Option MO
def mset (M : Mem) (a : Addr) (o : MO) : Mem := fun b => if b = a then some o else M b
@[simp] theorem mset_same (M : Mem) (a : Addr) (o : MO) : mset M a o a = some o := if_pos rfl
theorem mset_ne {M : Mem} {a b : Addr} {o : MO} (h : b ≠ a) : mset M a o b = M b := if_neg h
@[simp] theorem mset_mset (M : Mem) (a : Addr) (o o' : MO) : mset (mset M a o) a o' = mset M a o' := by
  funext b; unfold mset; split <;> rfl
theorem mset_self {M : Mem} {a : Addr} {o : MO} (h : M a = some o) : mset M a o = M := by
  funext b; unfold mset; split
  · rename_i e; rw [e, h]
  · rfl
theorem mset_comm {M : Mem} {a b : Addr} {o o' : MO} (h : a ≠ b) : mset (mset M a o) b o' = mset (mset M b o') a o := by
  funext c; unfold mset
  by_cases h1 : c = b
  · subst h1; rw [if_pos rfl, if_neg (Ne.symm h), if_pos rfl]
  · rw [if_neg h1]
    by_cases h2 : c = a
    · rw [if_pos h2, if_pos h2]
    · rw [if_neg h2, if_neg h2, if_neg h1]
def mdel (M : Mem) (a : Addr) : Mem := fun b => if b = a then none else M b
/-- an object that may be forgotten -/
def soft : Option MO → Prop
  | some (.deck _ _) => False
  | some (.part _) => False
  | _ => True
/-- less is known -/
def Sub (M M' : Mem) : Prop := ∀ a, M a = M' a ∨ (M a = none ∧ soft (M' a))
theorem Sub.refl (M : Mem) : Sub M M := fun _ => .inl rfl
theorem Sub.trans {M M1 M2 : Mem} (a : Sub M M1) (b : Sub M1 M2) : Sub M M2 := fun x => by
  rcases a x with h | ⟨h, s⟩
  · rcases b x with h' | ⟨h', s'⟩
    · exact .inl (h.trans h')
    · exact .inr ⟨h.trans h', s'⟩
  · rcases b x with h' | ⟨h', s'⟩
    · exact .inr ⟨h, h' ▸ s⟩
    · exact .inr ⟨h, s'⟩
theorem Sub.new {M : Mem} {a : Addr} {o : MO} (h : M a = none) (s : soft (some o)) : Sub M (mset M a o) := fun b => by
  by_cases e : b = a
  · subst e; rw [mset_same]; exact .inr ⟨h, s⟩
  · rw [mset_ne e]; exact .inl rfl
theorem Sub.lst {M : Mem} {a : Addr} {xs : List D} (h : M a = none) : Sub M (mset M a (.lst xs)) := .new h trivial
theorem Sub.mset {M M' : Mem} (s : Sub M M') (a : Addr) (o : MO) : Sub (mset M a o) (mset M' a o) := fun b => by
  by_cases e : b = a
  · subst e; rw [mset_same, mset_same]; exact .inl rfl
  · rw [mset_ne e, mset_ne e]; exact s b

abbrev Env := List (Option D)
abbrev DK := D → Mem → Prop
abbrev DE := Env → Mem → DK → Prop
abbrev BK := Bool → Mem → Prop
abbrev DT := Env → Mem → BK → Prop
abbrev DA := Env → Mem → (List D → Mem → Prop) → Prop
abbrev DI := Env → Mem → (List D → Mem → Prop) → Prop
structure DEnds where
  nx : Env → Mem → Prop
  rt : DK
  bk : Env → Mem → Prop := fun _ _ => False
  ct : Env → Mem → Prop := fun _ _ => False
abbrev DS := DEnds → Env → Mem → Prop
abbrev DG := D → Env → Mem → (Env → Mem → Prop) → Prop
abbrev DGs := List D → Env → Mem → (Env → Mem → Prop) → Prop
/-- what a def is worth: where it may be called, what comes of it -/
structure Spec where
  pre : List D → Mem → Prop
  post : List D → Mem → D → Mem → Prop
/-- a function of its arguments -/
def Spec.fn (pre : List D → Prop) (f : List D → D) : Spec := ⟨fun ds _ => pre ds, fun ds M d M' => d = f ds ∧ M' = M⟩
abbrev R2 := D → D → Mem → DK → Prop
abbrev R1 := D → Mem → DK → Prop

/-! ### lists, sequences, indices -/
/-- a list that is read -/
def asL (M : Mem) : D → Option (List D)
  | .lst xs => some xs
  | .rol xs => some xs
  | .ref a => match M a with
    | some (.lst xs) => some xs
    | _ => none
  | _ => none
/-- a list that is tracked by itself -/
def asW (M : Mem) : D → Option (List D)
  | .lst xs => some xs
  | .ref a => match M a with
    | some (.lst xs) => some xs
    | _ => none
  | _ => none
def asS (M : Mem) : D → Option (List D)
  | .tup xs => some xs
  | x => asL M x
def ixN (n : Nat) (i : Int) : Option Nat := if 0 ≤ i then (if i < n then some i.toNat else none) else if -(n : Int) ≤ i then some (i + n).toNat else none
def atI {α : Type} (xs : List α) (i : Int) : Option α := (ixN xs.length i).bind fun j => xs[j]?
def sIx (n d : Nat) : Option Int → Nat
  | none => d
  | some i => if i < 0 then (i + n).toNat else min i.toNat n
def cut {α : Type} (xs : List α) (lo hi : Option Int) : List α := (xs.drop (sIx xs.length 0 lo)).take (sIx xs.length xs.length hi - sIx xs.length 0 lo)
def chars (x : Str) : List D := x.cps.toList.map fun c => .str ⟨#[c]⟩

/-! ### equality of data -/
mutual
def eqv : D → D → Bool
  | .non, .non => true
  | .bl a, .bl b => a == b
  | .bl a, .int j => (if a then 1 else 0) == j
  | .int i, .bl b => i == (if b then 1 else 0)
  | .int i, .int j => i == j
  | .str x, .str y => x == y
  | .lst xs, .lst ys => eqvs xs ys
  | .tup xs, .tup ys => eqvs xs ys
  | _, _ => false
def eqvs : List D → List D → Bool
  | [], [] => true
  | x :: xs, y :: ys => eqv x y && eqvs xs ys
  | _, _ => false
end
def strOk (x : Str) : Bool := x.cps.all (· < 0x110000)
mutual
/-- data that may be compared: no places, no dicts -/
def plain : D → Bool
  | .non => true
  | .bl _ => true
  | .int _ => true
  | .str x => strOk x
  | .tup xs => plains xs
  | .lst xs => plains xs
  | _ => false
def plains : List D → Bool
  | [] => true
  | x :: xs => plain x && plains xs
end
mutual
def depth : D → Nat
  | .tup xs => depths xs + 1
  | .lst xs => depths xs + 1
  | _ => 1
def depths : List D → Nat
  | [] => 0
  | x :: xs => max (depth x) (depths xs)
end
def cmpOk (d : D) : Bool := plain d && decide (depth d ≤ 64)
/-- data to be compared, a list of the memory as it stands -/
def asC (M : Mem) : D → D
  | .ref a => match M a with
    | some (.lst xs) => .lst xs
    | _ => .ref a
  | d => d
def flat : D → Bool
  | .non => true
  | .bl _ => true
  | .int _ => true
  | .str _ => true
  | _ => false

/-! ### operators -/
def oAdd : R2
  | .int i, .int j, M, Q => Q (.int (i + j)) M
  | .str a, .str b, M, Q => a.length + b.length ≤ 100000 ∧ Q (.str (a ++ b)) M
  | .tup a, .tup b, M, Q => a.length + b.length ≤ 100000 ∧ Q (.tup (a ++ b)) M
  | x, y, M, Q => match asW M x, asW M y with
    | some a, some b => a.length + b.length ≤ 100000 ∧ Q (.lst (a ++ b)) M
    | _, _ => False
def oSub : R2
  | .int i, .int j, M, Q => Q (.int (i - j)) M
  | _, _, _, _ => False
def small (i : Int) : Prop := -(2 ^ 64) < i ∧ i < 2 ^ 64
/-- a text, some times -/
def repS (n : Nat) (x : Str) : Str := ⟨(List.replicate n x.cps).foldl (· ++ ·) #[]⟩
def oRep : R2
  | .str x, .int k, M, Q => (1 ≤ k ∧ k ≤ 1000 ∧ 1 ≤ x.length ∧ x.length ≤ 100) ∧ Q (.str (repS k.toNat x)) M
  | _, _, _, _ => False
def oMul : R2
  | .int i, .int j, M, Q => (small i ∨ small j) ∧ Q (.int (i * j)) M
  | .str x, .int k, M, Q => (0 ≤ k ∧ k ≤ 1000 ∧ 1 ≤ x.length ∧ x.length ≤ 100) ∧ Q (.str (repS k.toNat x)) M
  | .lst xs, .int k, M, Q => (0 ≤ k ∧ k ≤ 1000 ∧ xs.length ≤ 100) ∧ Q (.lst (List.replicate k.toNat xs).flatten) M
  | _, _, _, _ => False
/-- two lists one behind the other: a new list that may change -/
def oCatN : R2 := fun x y M Q => match asW M x, asW M y with
  | some a, some b => a.length + b.length ≤ 100000 ∧ ∀ p, M p = none → Q (.ref p) (mset M p (.lst (a ++ b)))
  | _, _ => False
def oAddI : R2
  | .int i, .int j, M, Q => Q (.int (i + j)) M
  | _, _, _, _ => False
def oMax : R2
  | .int i, .int j, M, Q => Q (.int (if j > i then j else i)) M
  | _, _, _, _ => False
def oFdiv : R2
  | .int i, .int j, M, Q => (0 < j ∧ j < 2 ^ 200) ∧ Q (.int (i / j)) M
  | _, _, _, _ => False
def oMod : R2
  | .int i, .int j, M, Q => 0 < j ∧ Q (.int (i % j)) M
  | _, _, _, _ => False
def oPow : R2
  | .int i, .int j, M, Q => (0 ≤ j ∧ j ≤ 1000000 ∧ i.natAbs < 2 ^ 64) ∧ Q (.int (i ^ j.toNat)) M
  | _, _, _, _ => False
def oNeg : R1
  | .int i, M, Q => Q (.int (-i)) M
  | _, _, _ => False
def oLt : R2
  | .int i, .int j, M, Q => Q (.bl (decide (i < j))) M
  | _, _, _, _ => False
def oLe : R2
  | .int i, .int j, M, Q => Q (.bl (decide (i ≤ j))) M
  | _, _, _, _ => False
def oGt : R2
  | .int i, .int j, M, Q => Q (.bl (decide (j < i))) M
  | _, _, _, _ => False
def oGe : R2
  | .int i, .int j, M, Q => Q (.bl (decide (j ≤ i))) M
  | _, _, _, _ => False
/-- ==, as a bool -/
def eqB : D → D → Mem → BK → Prop
  | .str a, .str b, M, Q => Q (decide (a = b)) M
  | .int a, .int b, M, Q => Q (decide (a = b)) M
  | .bl a, .bl b, M, Q => Q (decide (a = b)) M
  | x, y, M, Q => cmpOk (asC M x) = true ∧ cmpOk (asC M y) = true ∧ Q (eqv (asC M x) (asC M y)) M
@[simp] def oEq : R2 := fun x y M Q => eqB x y M fun b M1 => Q (.bl b) M1
@[simp] def oNe : R2 := fun x y M Q => eqB x y M fun b M1 => Q (.bl (!b)) M1
def oIsN : R1
  | .non, M, Q => Q (.bl true) M
  | _, M, Q => Q (.bl false) M
def oNotN : R1
  | .non, M, Q => Q (.bl false) M
  | _, M, Q => Q (.bl true) M
/-- in, as a bool -/
def inB : D → D → Mem → BK → Prop
  | .str a, .str b, M, Q => ∃ c, a = ⟨#[c]⟩ ∧ Q (decide (c ∈ b.cps.toList)) M
  | x, y, M, Q => match asS M y with
    | some ys => flat x = true ∧ ys.all flat = true ∧ Q (ys.any fun z => eqv z x) M
    | none => False
@[simp] def oIn : R2 := fun x y M Q => inB x y M fun b M1 => Q (.bl b) M1
@[simp] def oNotIn : R2 := fun x y M Q => inB x y M fun b M1 => Q (.bl (!b)) M1
/-- x[i] -/
def oIx : R2
  | .str s, .int i, M, Q => s.length ≤ 100000 ∧ (match atI s.cps.toList i with
    | some c => Q (.str ⟨#[c]⟩) M
    | none => False)
  | x, .int i, M, Q => match asS M x with
    | some xs => (match atI xs i with
      | some v => Q v M
      | none => False)
    | none => False
  | _, _, _, _ => False
def oLen : R1
  | .str s, M, Q => s.length ≤ 100000 ∧ Q (.int s.length) M
  | x, M, Q => match asS M x with
    | some xs => Q (.int xs.length) M
    | none => False
/-- x[lo:hi] -/
def oCut : D → Option Int → Option Int → Mem → DK → Prop
  | .str s, lo, hi, M, Q => s.length ≤ 100000 ∧ Q (.str ⟨(cut s.cps.toList lo hi).toArray⟩) M
  | .tup xs, lo, hi, M, Q => Q (.tup (cut xs lo hi)) M
  | x, lo, hi, M, Q => match asL M x with
    | some xs => Q (.lst (cut xs lo hi)) M
    | none => False
/-- the kind of a thing -/
def tyOf (M : Mem) : D → String
  | .non => "NoneType"
  | .bl _ => "bool"
  | .int _ => "int"
  | .str _ => "str"
  | .tup _ => "tuple"
  | .lst _ => "list"
  | .dK _ _ => "dict"
  | .dT _ _ => "dict"
  | .ref a => match M a with
    | some (.lst _) => "list"
    | some (.dK _ _) => "dict"
    | some (.dT _ _) => "dict"
    | _ => ""
  | _ => ""
/-- isinstance(x, T) of a built-in class T -/
@[simp] def oIsi (T : String) : R1 := fun x M Q => tyOf M x ≠ "" ∧ Q (.bl (tyOf M x == T || (T == "int" && tyOf M x == "bool"))) M
def oAbs : R1
  | .int i, M, Q => Q (.int (if i < 0 then -i else i)) M
  | _, _, _ => False
def oInt : R1
  | .int i, M, Q => Q (.int i) M
  | .bl b, M, Q => Q (.int (if b then 1 else 0)) M
  | _, _, _ => False
def oStr : R1
  | .int i, M, Q => i.natAbs < 2 ^ 200 ∧ Q (.str (toString i)) M
  | _, _, _ => False
def oTuple : R1
  | .tup xs, M, Q => Q (.tup xs) M
  | x, M, Q => match asL M x with
    | some xs => Q (.tup xs) M
    | none => False
def oList : R1 := fun x M Q => match asS M x with
  | some xs => Q (.lst xs) M
  | none => False
def dBools : List D → Option (List Bool)
  | [] => some []
  | .bl b :: r => (dBools r).map (b :: ·)
  | _ :: _ => none
def dInts : List D → Option (List Int)
  | [] => some []
  | .int b :: r => (dInts r).map (b :: ·)
  | _ :: _ => none
def oAll : R1 := fun x M Q => match (asL M x).bind dBools with
  | some bs => Q (.bl (bs.all id)) M
  | none => False
def oAny : R1 := fun x M Q => match (asL M x).bind dBools with
  | some bs => Q (.bl (bs.any id)) M
  | none => False
def oSum : R1 := fun x M Q => match (asL M x).bind dInts with
  | some ns => Q (.int ns.sum) M
  | none => False

/-! ### expressions -/
@[simp] def dV (i : Nat) : DE := fun ρ M Q => match ρ[i]? with
  | some (some d) => Q d M
  | _ => False
@[simp] def dC (d : D) : DE := fun _ M Q => Q d M
@[simp] def dA0 : DA := fun _ M Q => Q [] M
@[simp] def dA (t : DE) (r : DA) : DA := fun ρ M Q => t ρ M fun x M1 => r ρ M1 fun xs M2 => Q (x :: xs) M2
@[simp] def dTup (t : DA) : DE := fun ρ M Q => t ρ M fun xs M1 => Q (.tup xs) M1
/-- a list that is never changed; a list of the memory -/
@[simp] def dLst (t : DA) : DE := fun ρ M Q => t ρ M fun xs M1 => Q (.lst xs) M1
@[simp] def dNew (t : DA) : DE := fun ρ M Q => t ρ M fun xs M1 => ∀ p, M1 p = none → Q (.ref p) (mset M1 p (.lst xs))
@[simp] def dOp (r : R2) (ta tb : DE) : DE := fun ρ M Q => ta ρ M fun x M1 => tb ρ M1 fun y M2 => r x y M2 Q
@[simp] def dUn (r : R1) (ta : DE) : DE := fun ρ M Q => ta ρ M fun x M1 => r x M1 Q
@[simp] def dCut (ta : DE) (tl th : Env → Mem → (Option Int → Mem → Prop) → Prop) : DE := fun ρ M Q => ta ρ M fun x M1 => tl ρ M1 fun lo M2 => th ρ M2 fun hi M3 => oCut x lo hi M3 Q
@[simp] def dNoPart : Env → Mem → (Option Int → Mem → Prop) → Prop := fun _ M Q => Q none M
@[simp] def dPart (t : DE) : Env → Mem → (Option Int → Mem → Prop) → Prop := fun ρ M Q => t ρ M fun x M1 => match x with
  | .int i => Q (some i) M1
  | _ => False
@[simp] def dTest (te : DE) : DT := fun ρ M Q => te ρ M fun x M1 => match x with
  | .bl b => Q b M1
  | _ => False
@[simp] def dAnd (t u : DT) : DT := fun ρ M Q => t ρ M fun c M1 => if c = true then u ρ M1 Q else Q false M1
@[simp] def dOr (t u : DT) : DT := fun ρ M Q => t ρ M fun c M1 => if c = true then Q true M1 else u ρ M1 Q
@[simp] def dNot (t : DT) : DT := fun ρ M Q => t ρ M fun c M1 => Q (!c) M1
@[simp] def dAndV (ta tb : DE) : DE := fun ρ M Q => ta ρ M fun x M1 => match x with
  | .bl c => if c = true then tb ρ M1 Q else Q (.bl false) M1
  | _ => False
@[simp] def dOrV (ta tb : DE) : DE := fun ρ M Q => ta ρ M fun x M1 => match x with
  | .bl c => if c = true then Q (.bl true) M1 else tb ρ M1 Q
  | _ => False
@[simp] def dNotV (ta : DE) : DE := fun ρ M Q => ta ρ M fun x M1 => match x with
  | .bl c => Q (.bl (!c)) M1
  | _ => False
@[simp] def dIfE (t : DT) (ta tb : DE) : DE := fun ρ M Q => t ρ M fun c M1 => if c = true then ta ρ M1 Q else tb ρ M1 Q
/-- a < b < c -/
@[simp] def dChain (r r' : R2) (ta tb tc : DE) : DE := fun ρ M Q => ta ρ M fun x M1 => tb ρ M1 fun y M2 => r x y M2 fun z M3 => match z with
  | .bl k => if k = true then tc ρ M3 fun u M4 => r' y u M4 Q else Q (.bl false) M3
  | _ => False
@[simp] def dCall (sp : Spec) (t : DA) : DE := fun ρ M Q => t ρ M fun xs M1 => sp.pre xs M1 ∧ ∀ d M', sp.post xs M1 d M' → Q d M'
/-- a method of a list of the memory -/
@[simp] def dMeth (r : R2) (to ta : DE) : DE := fun ρ M Q => to ρ M fun x M1 => (asL M1 x).isSome = true ∧ ta ρ M1 fun y M2 => r x y M2 Q
@[simp] def dMeth0 (r : R1) (to : DE) : DE := fun ρ M Q => to ρ M fun x M1 => (asL M1 x).isSome = true ∧ r x M1 Q
/-- l.append(x), l.pop(), l.pop(i), as expressions -/
def mAppend : R2
  | .ref l, x, M, Q => match M l with
    | some (.lst xs) => xs.length < 100000 ∧ Q .non (mset M l (.lst (xs ++ [x])))
    | _ => False
  | _, _, _, _ => False
/-- l.index(x) -/
def ixOf : List D → D → Nat → Option Nat
  | [], _, _ => none
  | y :: ys, x, k => if eqv y x = true then some k else ixOf ys x (k + 1)
def mIndex : R2 := fun x y M Q => match asL M x with
  | some ys => flat y = true ∧ ys.all flat = true ∧ (match ixOf ys y 0 with
    | some k => Q (.int (k : Nat)) M
    | none => False)
  | none => False
def mPop : R1
  | .ref l, M, Q => match M l with
    | some (.lst xs) => (match xs[xs.length - 1]? with
      | some y => Q y (mset M l (.lst xs.dropLast))
      | none => False)
    | _ => False
  | _, _, _ => False
def mPopAt : R2
  | .ref l, .int i, M, Q => match M l with
    | some (.lst xs) => (-(2 ^ 63) ≤ i ∧ i < 2 ^ 63) ∧ (match ixN xs.length i with
      | some k => (match xs[k]? with
        | some y => Q y (mset M l (.lst (xs.eraseIdx k)))
        | none => False)
      | none => False)
    | _ => False
  | _, _, _, _ => False

/-- t[::-1] of a tuple -/
def oRev : R1
  | .tup xs, M, Q => Q (.tup xs.reverse) M
  | _, _, _ => False
@[simp] theorem oRev_tup (xs : List D) {M : Mem} {Q : DK} : oRev (.tup xs) M Q = Q (.tup xs.reverse) M := rfl
/-- t == (), t != () -/
def oEqT0 : R2
  | .tup xs, .tup [], M, Q => Q (.bl xs.isEmpty) M
  | _, _, _, _ => False
def oNeT0 : R2
  | .tup xs, .tup [], M, Q => Q (.bl (!xs.isEmpty)) M
  | _, _, _, _ => False
@[simp] theorem oEqT0_tup (xs : List D) {M : Mem} {Q : DK} : oEqT0 (.tup xs) (.tup []) M Q = Q (.bl xs.isEmpty) M := rfl
@[simp] theorem oNeT0_tup (xs : List D) {M : Mem} {Q : DK} : oNeT0 (.tup xs) (.tup []) M Q = Q (.bl (!xs.isEmpty)) M := rfl
/-- {} that is never changed -/
@[simp] def dDict0 : DE := fun _ M Q => Q (.dK [] []) M
/-- a call whose last arguments are the def's own -/
@[simp] def dCallD (sp : Spec) (dd : List D) (t : DA) : DE := fun ρ M Q => t ρ M fun xs M1 => sp.pre (xs ++ dd) M1 ∧ ∀ d M', sp.post (xs ++ dd) M1 d M' → Q d M'

/-! ### what is walked -/
@[simp] def iSeq (t : DE) : DI := fun ρ M R => t ρ M fun x M1 => match x with
  | .tup xs => R xs M1
  | .lst xs => R xs M1
  | .rol xs => R xs M1
  | .str s => R (chars s) M1
  | _ => False
def upTo (n : Nat) : List D := (List.range n).map fun (i : Nat) => .int (i : Int)
@[simp] def iRange (t : DE) : DI := fun ρ M R => t ρ M fun x M1 => match x with
  | .int n => (-(2 ^ 62) ≤ n ∧ n < 2 ^ 62) ∧ R (upTo n.toNat) M1
  | _ => False
def enumD : Nat → List D → List D
  | _, [] => []
  | n, x :: xs => .tup [.int (n : Int), x] :: enumD (n + 1) xs
@[simp] def iEnum (t : DE) : DI := fun ρ M R => t ρ M fun x M1 => match x with
  | .tup xs => R (enumD 0 xs) M1
  | .lst xs => R (enumD 0 xs) M1
  | .rol xs => R (enumD 0 xs) M1
  | _ => False
def zipD : List D → List D → List D
  | x :: xs, y :: ys => .tup [x, y] :: zipD xs ys
  | _, _ => []
@[simp] def iZip (ta tb : DE) : DI := fun ρ M R => ta ρ M fun x M1 => tb ρ M1 fun y M2 => match x, y with
  | .tup xs, .tup ys => R (zipD xs ys) M2
  | .lst xs, .lst ys => R (zipD xs ys) M2
  | _, _ => False
/-- a comprehension, its list never changed -/
@[simp] def wipe (ρ : Env) : List Nat → Env
  | [] => ρ
  | v :: vs => (wipe ρ vs).set v none
@[simp] def dCompL (g : DG) (tt : DT) (te : DE) (ρ : Env) : List D → List D → Mem → DK → Prop
  | [], acc, M, Q => Q (.lst acc) M
  | d :: r, acc, M, Q => g d ρ M fun ρ1 M1 => tt ρ1 M1 fun b M2 => if b = true then te ρ1 M2 fun x M3 => dCompL g tt te ρ r (acc ++ [x]) M3 Q else dCompL g tt te ρ r acc M2 Q
@[simp] def dComp (ti : DI) (g : DG) (tt : DT) (te : DE) (vs : List Nat) : DE := fun ρ M Q => ti ρ M fun ds M1 => ds.length ≤ 100000 ∧ dCompL g tt te (wipe ρ vs) ds [] M1 Q
/-- keys of dicts -/
def keyOf : D → Option Key
  | .int i => some (.inl i)
  | .str x => some (.inr x)
  | _ => none
@[simp] theorem keyOf_str (x : Str) : keyOf (.str x) = some (.inr x) := rfl
@[simp] theorem keyOf_int (i : Int) : keyOf (.int i) = some (.inl i) := rfl
/-- {k: v for target in iter}: keys that are new -/
def dDCompL (g : DG) (tt : DT) (tk tv : DE) (ρ : Env) : List D → List Key → List D → Mem → DK → Prop
  | [], ks, acc, M, Q => Q (.dK ks acc) M
  | d :: r, ks, acc, M, Q => g d ρ M fun ρ1 M1 => tt ρ1 M1 fun b M2 => if b = true then tk ρ1 M2 fun y M3 => tv ρ1 M3 fun x M4 => (match keyOf y with
      | some k => k ∉ ks ∧ dDCompL g tt tk tv ρ r (ks ++ [k]) (acc ++ [x]) M4 Q
      | none => False) else dDCompL g tt tk tv ρ r ks acc M2 Q
@[simp] def dDComp (ti : DI) (g : DG) (tt : DT) (tk tv : DE) (vs : List Nat) : DE := fun ρ M Q => ti ρ M fun ds M1 => ds.length ≤ 100000 ∧ dDCompL g tt tk tv (wipe ρ vs) ds [] [] M1 Q
def valD : List Key → List D → Key → Option D
  | k :: ks, d :: ds, x => if k = x then some d else valD ks ds x
  | _, _, _ => none
/-- d.get(y, z) -/
@[simp] def dGet2 (td ty tz : DE) : DE := fun ρ M Q => td ρ M fun d M1 => match d with
  | .dK ks ds => ty ρ M1 fun y M2 => tz ρ M2 fun z M3 => (match keyOf y with
    | some k => Q ((valD ks ds k).getD z) M3
    | none => False)
  | _ => False
/-! rows that are known to be plain, dicts of them -/
def oTupP : R1 := fun x M Q => match asL M x with
  | some xs => ∀ p, M p = none → Q (.ref p) (mset M p (.tupP xs))
  | none => False
@[simp] def iSeqP (t : DE) : DI := fun ρ M R => t ρ M fun x M1 => match x with
  | .ref p => (match M1 p with
    | some (.tupP xs) => R xs (mdel M1 p)
    | _ => False)
  | _ => False
def keysOf : List D → Option (List Key)
  | [] => some []
  | d :: r => match keyOf d, keysOf r with
    | some k, some ks => some (k :: ks)
    | _, _ => none
def pairsT : List D → Option (List (List Key) × List D)
  | [] => some ([], [])
  | .tup [.tup k, v] :: r => match keysOf k, pairsT r with
    | some ks, some (kss, vs) => some (ks :: kss, v :: vs)
    | _, _ => none
  | _ :: _ => none
def oDictP : R1
  | .ref p, M, Q => match M p with
    | some (.tupP xs) => (match pairsT xs with
      | some (ks, vs) => (ks.Nodup ∧ ks.length ≤ 100000) ∧ Q (.dT ks vs) (mdel M p)
      | none => False)
    | _ => False
  | _, _, _ => False
def valT : List (List Key) → List D → List Key → Option D
  | k :: ks, d :: ds, x => if k = x then some d else valT ks ds x
  | _, _, _ => none
/-- d.get(y, z) of a dict of rows -/
@[simp] def dGetT (td ty tz : DE) : DE := fun ρ M Q => td ρ M fun d M1 => match d with
  | .dT ks ds => ty ρ M1 fun y M2 => tz ρ M2 fun z M3 => (match y with
    | .tup k => (match keysOf k with
      | some kk => Q ((valT ks ds kk).getD z) M3
      | none => False)
    | _ => False)
  | _ => False
/-! dicts of the memory -/
@[simp] def dNewD : DE := fun _ M Q => ∀ p, M p = none → Q (.ref p) (mset M p (.dK [] []))
def asK (M : Mem) : D → Option (List Key × List D)
  | .dK ks vs => some (ks, vs)
  | .ref a => match M a with
    | some (.dK ks vs) => some (ks, vs)
    | _ => none
  | _ => none
/-- d[y] -/
def oIxD : R2 := fun x y M Q => match asK M x, keyOf y with
  | some (ks, vs), some k => (match valD ks vs k with
    | some v => Q v M
    | none => False)
  | _, _ => False
/-- y in d -/
def oInD : R2 := fun y x M Q => match asK M x, keyOf y with
  | some (ks, vs), some k => Q (.bl (valD ks vs k).isSome) M
  | _, _ => False
def oNotInD : R2 := fun y x M Q => match asK M x, keyOf y with
  | some (ks, vs), some k => Q (.bl (!(valD ks vs k).isSome)) M
  | _, _ => False
def oLenD : R1 := fun x M Q => match asK M x with
  | some (ks, _) => Q (.int ks.length) M
  | none => False
/-- d[y] = v, y new -/
@[simp] def sPutD (td ty tv : DE) : DEnds → Env → Mem → Prop := fun E ρ M => tv ρ M fun v M1 => td ρ M1 fun x M2 => ty ρ M2 fun y M3 => match x, keyOf y with
  | .ref a, some k => (match M3 a with
    | some (.dK ks vs) => k ∉ ks ∧ ks.length < 100000 ∧ E.nx ρ (mset M3 a (.dK (ks ++ [k]) (vs ++ [v])))
    | _ => False)
  | _, _ => False
/-- d.setdefault(y, z) -/
@[simp] def dSetd (td ty tz : DE) : DE := fun ρ M Q => td ρ M fun x M1 => (asK M1 x).isSome = true ∧ ty ρ M1 fun y M2 => tz ρ M2 fun z M3 => match x, keyOf y with
  | .ref a, some k => (match M3 a with
    | some (.dK ks vs) => ks.length < 100000 ∧ (match valD ks vs k with
      | some v => Q v M3
      | none => Q z (mset M3 a (.dK (ks ++ [k]) (vs ++ [z]))))
    | _ => False)
  | _, _ => False
/-- l.extend(a new list) -/
def mExtend : R2
  | .ref l, .lst ys, M, Q => match M l with
    | some (.lst xs) => xs.length + ys.length ≤ 100000 ∧ Q .non (mset M l (.lst (xs ++ ys)))
    | _ => False
  | _, _, _, _ => False
/-- a comprehension whose list may change later -/
@[simp] def dCompN (ti : DI) (g : DG) (tt : DT) (te : DE) (vs : List Nat) : DE := fun ρ M Q => dComp ti g tt te vs ρ M fun x M1 => match x with
  | .lst xs => ∀ p, M1 p = none → Q (.ref p) (mset M1 p (.lst xs))
  | _ => False
@[simp] def dYes : DT := fun _ M Q => Q true M

/-! ### targets -/
@[simp] def gName (i : Nat) : DG := fun v ρ M Q => Q (ρ.set i (some v)) M
@[simp] def gNil : DGs := fun vs ρ M Q => match vs with
  | [] => Q ρ M
  | _ => False
@[simp] def gCons (t : DG) (u : DGs) : DGs := fun vs ρ M Q => match vs with
  | v :: r => t v ρ M fun ρ' M' => u r ρ' M' Q
  | _ => False
@[simp] def gTup (t : DGs) : DG := fun v ρ M Q => match v with
  | .tup xs => t xs ρ M Q
  | _ => False
/-- a, b, .. = a list -/
@[simp] def gLst (t : DGs) : DG := fun v ρ M Q => match asL M v with
  | some xs => t xs ρ M Q
  | none => False
/-- l[i] = v -/
@[simp] def gSub (to ti : DE) : DG := fun v ρ M Q => to ρ M fun o M1 => ti ρ M1 fun i M2 => match o, i with
  | .ref l, .int k => (match M2 l with
    | some (.lst xs) => (match ixN xs.length k with
      | some j => Q ρ (mset M2 l (.lst (xs.set j v)))
      | none => False)
    | _ => False)
  | _, _ => False

/-! ### statements -/
@[simp] def sNext : DS := fun E ρ M => E.nx ρ M
@[simp] def sSeq (t u : DS) : DS := fun E ρ M => t { E with nx := u E } ρ M
@[simp] def sBreak : DS := fun E ρ M => E.bk ρ M
@[simp] def sCont : DS := fun E ρ M => E.ct ρ M
@[simp] def sExpr (te : DE) : DS := fun E ρ M => te ρ M fun _ M1 => E.nx ρ M1
@[simp] def sRet (te : DE) : DS := fun E ρ M => te ρ M E.rt
@[simp] def sRetN : DS := fun E _ M => E.rt .non M
@[simp] def sIf (c : DT) (t u : DS) : DS := fun E ρ M => c ρ M fun b M1 => if b = true then t E ρ M1 else u E ρ M1
@[simp] def sAsg (te : DE) (g : DG) : DS := fun E ρ M => te ρ M fun x M1 => g x ρ M1 E.nx
@[simp] def sAug (i : Nat) (te : DE) (r : R2) : DS := fun E ρ M => match ρ[i]? with
  | some (some x) => te ρ M fun y M1 => r x y M1 fun z M2 => E.nx (ρ.set i (some z)) M2
  | _ => False
@[simp] def sLoop (g : DG) (b : DS) : List D → DS
  | [] => fun E ρ M => E.nx ρ M
  | d :: r => fun E ρ M => g d ρ M fun ρ1 M1 => b { E with nx := sLoop g b r E, ct := sLoop g b r E, bk := E.nx } ρ1 M1
@[simp] def sFor (ti : DI) (g : DG) (b : DS) : DS := fun E ρ M => ti ρ M fun ds M1 => sLoop g b ds E ρ M1
def sWhileN (c : DT) (b : DS) : Nat → DS
  | 0 => fun _ _ _ => False
  | n + 1 => fun E ρ M => c ρ M fun k M1 => if k = true then b { E with nx := sWhileN c b n E, ct := sWhileN c b n E, bk := E.nx } ρ M1 else E.nx ρ M1
def sWhile (c : DT) (b : DS) : DS := fun E ρ M => ∃ n, sWhileN c b n E ρ M
def sNever : DS := fun _ _ _ => False

/-- a def's start: its arguments, then its other names -/
@[simp] def start (n : Nat) (ds : List D) : Env := ds.map some ++ List.replicate (n - ds.length) none

/-- what a def hands back: lists of its own are forgotten; a list of the memory that is handed back may be one that never changes from then on -/
def Out (M' M'' : Mem) (d d' : D) : Prop := Sub M'' M' ∧ (d' = d ∨ ∃ p xs, d = .ref p ∧ M' p = some (.lst xs) ∧ M'' p = none ∧ d' = .lst xs)
def Ret (sp : Spec) (ds : List D) (M : Mem) : DK := fun d M' => ∃ d' M'', Out M' M'' d d' ∧ sp.post ds M d' M''
/-- the body's reading does what is promised -/
def Does (n : Nat) (t : DS) (k : Nat) (sp : Spec) : Prop := ∀ ds M, ds.length = k → sp.pre ds M → t { nx := fun _ M' => Ret sp ds M .non M', rt := Ret sp ds M } (start n ds) M
theorem Ret.same {sp : Spec} {ds : List D} {M M' M'' : Mem} {d : D} (s : Sub M'' M') (h : sp.post ds M d M'') : Ret sp ds M d M' := ⟨d, M'', ⟨s, .inl rfl⟩, h⟩
theorem Ret.now {sp : Spec} {ds : List D} {M M' : Mem} {d : D} (h : sp.post ds M d M') : Ret sp ds M d M' := ⟨d, M', ⟨Sub.refl _, .inl rfl⟩, h⟩
theorem Ret.fn {pre : List D → Prop} {f : List D → D} {ds : List D} {M M' : Mem} {d : D} (s : Sub M M') (h : d = f ds) : Ret (Spec.fn pre f) ds M d M' := .same s ⟨h, rfl⟩

/-! ### texts -/
theorem ofString_inj (a b : String) : (Str.ofString a = Str.ofString b) = (a = b) := by
  apply propext
  constructor
  · intro h
    rw [Str.ofString_eq_toList, Str.ofString_eq_toList] at h
    injection h with h
    have h2 : a.toList.map Char.toNat = b.toList.map Char.toNat := by
      have := congrArg Array.toList h
      simpa using this
    have inj : ∀ (l m : List Char), l.map Char.toNat = m.map Char.toNat → l = m := by
      intro l
      induction l with
      | nil => intro m h; cases m with
        | nil => rfl
        | cons _ _ => simp at h
      | cons c r ih => intro m h; cases m with
        | nil => simp at h
        | cons d s =>
          simp only [List.map_cons, List.cons.injEq] at h
          rw [ih s h.2]
          have hc : c = d := by
            apply Char.ext
            apply UInt32.toNat.inj
            exact h.1
          rw [hc]
    have h3 := inj _ _ h2
    exact String.toList_inj.mp h3
  · intro h; rw [h]
/-! ### what the operators say, case by case -/
def hasD (ys : List D) (x : D) : Bool := ys.any fun z => eqv z x
@[simp] theorem hasD_nil (x : D) : hasD [] x = false := rfl
@[simp] theorem hasD_cons (y : D) (ys : List D) (x : D) : hasD (y :: ys) x = (eqv y x || hasD ys x) := rfl
theorem beq_dec {α : Type} [DecidableEq α] (a b : α) : (a == b) = decide (a = b) := rfl
@[simp] theorem eqv_str (a b : Str) : eqv (.str a) (.str b) = decide (a = b) := by rw [eqv]; rfl
@[simp] theorem eqv_int (a b : Int) : eqv (.int a) (.int b) = decide (a = b) := by rw [eqv]; rfl
@[simp] theorem eqv_bl (a b : Bool) : eqv (.bl a) (.bl b) = decide (a = b) := by rw [eqv]; rfl
@[simp] theorem eqv_non : eqv .non .non = true := by rw [eqv]
@[simp] theorem eqv_tup (a b : List D) : eqv (.tup a) (.tup b) = eqvs a b := by rw [eqv]
@[simp] theorem eqv_lst (a b : List D) : eqv (.lst a) (.lst b) = eqvs a b := by rw [eqv]
@[simp] theorem hasD_str (acc : List Str) (x : Str) : hasD (acc.map D.str) (.str x) = decide (x ∈ acc) := by
  induction acc with
  | nil => simp
  | cons a r ih =>
    simp only [List.map_cons, hasD_cons, ih, eqv_str, List.mem_cons]
    by_cases h : a = x
    · subst h; simp
    · have h' : x ≠ a := fun e => h e.symm
      simp [h, h']
@[simp] theorem all_flat (acc : List Str) : (acc.map D.str).all flat = true := by
  induction acc with
  | nil => rfl
  | cons a r ih => rw [List.map_cons, List.all_cons, ih]; rfl
@[simp] theorem eqvs_nil : eqvs [] [] = true := by rw [eqvs]
@[simp] theorem eqvs_cons (x y : D) (xs ys : List D) : eqvs (x :: xs) (y :: ys) = (eqv x y && eqvs xs ys) := by rw [eqvs]
@[simp] theorem eqvs_nc (y : D) (ys : List D) : eqvs [] (y :: ys) = false := by rw [eqvs] <;> simp
@[simp] theorem eqvs_cn (y : D) (ys : List D) : eqvs (y :: ys) [] = false := by rw [eqvs] <;> simp
@[simp] theorem eqv_non_bl (b2 : Bool) : eqv .non (.bl b2) = false := by rw [eqv] <;> simp
@[simp] theorem eqv_non_int (i2 : Int) : eqv .non (.int i2) = false := by rw [eqv] <;> simp
@[simp] theorem eqv_non_str (s2 : Str) : eqv .non (.str s2) = false := by rw [eqv] <;> simp
@[simp] theorem eqv_non_tup (a2 : List D) : eqv .non (.tup a2) = false := by rw [eqv] <;> simp
@[simp] theorem eqv_non_lst (l2 : List D) : eqv .non (.lst l2) = false := by rw [eqv] <;> simp
@[simp] theorem eqv_bl_non (b1 : Bool) : eqv (.bl b1) .non = false := by rw [eqv] <;> simp
@[simp] theorem eqv_bl_str (b1 : Bool) (s2 : Str) : eqv (.bl b1) (.str s2) = false := by rw [eqv] <;> simp
@[simp] theorem eqv_bl_tup (b1 : Bool) (a2 : List D) : eqv (.bl b1) (.tup a2) = false := by rw [eqv] <;> simp
@[simp] theorem eqv_bl_lst (b1 : Bool) (l2 : List D) : eqv (.bl b1) (.lst l2) = false := by rw [eqv] <;> simp
@[simp] theorem eqv_int_non (i1 : Int) : eqv (.int i1) .non = false := by rw [eqv] <;> simp
@[simp] theorem eqv_int_str (i1 : Int) (s2 : Str) : eqv (.int i1) (.str s2) = false := by rw [eqv] <;> simp
@[simp] theorem eqv_int_tup (i1 : Int) (a2 : List D) : eqv (.int i1) (.tup a2) = false := by rw [eqv] <;> simp
@[simp] theorem eqv_int_lst (i1 : Int) (l2 : List D) : eqv (.int i1) (.lst l2) = false := by rw [eqv] <;> simp
@[simp] theorem eqv_str_non (s1 : Str) : eqv (.str s1) .non = false := by rw [eqv] <;> simp
@[simp] theorem eqv_str_bl (s1 : Str) (b2 : Bool) : eqv (.str s1) (.bl b2) = false := by rw [eqv] <;> simp
@[simp] theorem eqv_str_int (s1 : Str) (i2 : Int) : eqv (.str s1) (.int i2) = false := by rw [eqv] <;> simp
@[simp] theorem eqv_str_tup (s1 : Str) (a2 : List D) : eqv (.str s1) (.tup a2) = false := by rw [eqv] <;> simp
@[simp] theorem eqv_str_lst (s1 : Str) (l2 : List D) : eqv (.str s1) (.lst l2) = false := by rw [eqv] <;> simp
@[simp] theorem eqv_tup_non (a1 : List D) : eqv (.tup a1) .non = false := by rw [eqv] <;> simp
@[simp] theorem eqv_tup_bl (a1 : List D) (b2 : Bool) : eqv (.tup a1) (.bl b2) = false := by rw [eqv] <;> simp
@[simp] theorem eqv_tup_int (a1 : List D) (i2 : Int) : eqv (.tup a1) (.int i2) = false := by rw [eqv] <;> simp
@[simp] theorem eqv_tup_str (a1 : List D) (s2 : Str) : eqv (.tup a1) (.str s2) = false := by rw [eqv] <;> simp
@[simp] theorem eqv_tup_lst (a1 : List D) (l2 : List D) : eqv (.tup a1) (.lst l2) = false := by rw [eqv] <;> simp
@[simp] theorem eqv_lst_non (l1 : List D) : eqv (.lst l1) .non = false := by rw [eqv] <;> simp
@[simp] theorem eqv_lst_bl (l1 : List D) (b2 : Bool) : eqv (.lst l1) (.bl b2) = false := by rw [eqv] <;> simp
@[simp] theorem eqv_lst_int (l1 : List D) (i2 : Int) : eqv (.lst l1) (.int i2) = false := by rw [eqv] <;> simp
@[simp] theorem eqv_lst_str (l1 : List D) (s2 : Str) : eqv (.lst l1) (.str s2) = false := by rw [eqv] <;> simp
@[simp] theorem eqv_lst_tup (l1 : List D) (a2 : List D) : eqv (.lst l1) (.tup a2) = false := by rw [eqv] <;> simp
section
variable (M : Mem) (Q : DK) (B : BK)
@[simp] theorem asL_lst (xs : List D) : asL M (.lst xs) = some xs := rfl
@[simp] theorem asL_rol (xs : List D) : asL M (.rol xs) = some xs := rfl
@[simp] theorem asL_ref (a : Addr) : asL M (.ref a) = (match M a with | some (.lst xs) => some xs | _ => none) := rfl
@[simp] theorem asL_tup (xs : List D) : asL M (.tup xs) = none := rfl
@[simp] theorem asL_str (x : Str) : asL M (.str x) = none := rfl
@[simp] theorem asW_lst (xs : List D) : asW M (.lst xs) = some xs := rfl
@[simp] theorem asW_ref (a : Addr) : asW M (.ref a) = (match M a with | some (.lst xs) => some xs | _ => none) := rfl
@[simp] theorem asS_tup (xs : List D) : asS M (.tup xs) = some xs := rfl
@[simp] theorem asS_lst (xs : List D) : asS M (.lst xs) = some xs := rfl
@[simp] theorem asS_rol (xs : List D) : asS M (.rol xs) = some xs := rfl
@[simp] theorem asS_ref (a : Addr) : asS M (.ref a) = (match M a with | some (.lst xs) => some xs | _ => none) := rfl
@[simp] theorem oAdd_int (i j : Int) : oAdd (.int i) (.int j) M Q = Q (.int (i + j)) M := rfl
@[simp] theorem oAdd_str (a b : Str) : oAdd (.str a) (.str b) M Q = (a.length + b.length ≤ 100000 ∧ Q (.str (a ++ b)) M) := rfl
@[simp] theorem oAdd_tup (a b : List D) : oAdd (.tup a) (.tup b) M Q = (a.length + b.length ≤ 100000 ∧ Q (.tup (a ++ b)) M) := rfl
@[simp] theorem oAdd_ll (a b : List D) : oAdd (.lst a) (.lst b) M Q = (a.length + b.length ≤ 100000 ∧ Q (.lst (a ++ b)) M) := rfl
@[simp] theorem oAdd_rl (p : Addr) (b : List D) : oAdd (.ref p) (.lst b) M Q = (match M p with | some (.lst a) => a.length + b.length ≤ 100000 ∧ Q (.lst (a ++ b)) M | _ => False) := by
  simp only [oAdd, asW]
  cases M p with
  | none => rfl
  | some o => cases o <;> rfl
@[simp] theorem oAdd_lr (p : Addr) (a : List D) : oAdd (.lst a) (.ref p) M Q = (match M p with | some (.lst b) => a.length + b.length ≤ 100000 ∧ Q (.lst (a ++ b)) M | _ => False) := by
  simp only [oAdd, asW]
  cases M p with
  | none => rfl
  | some o => cases o <;> rfl
@[simp] theorem oSub_int (i j : Int) : oSub (.int i) (.int j) M Q = Q (.int (i - j)) M := rfl
@[simp] theorem oMul_int (i j : Int) : oMul (.int i) (.int j) M Q = ((small i ∨ small j) ∧ Q (.int (i * j)) M) := rfl
@[simp] theorem oFdiv_int (i j : Int) : oFdiv (.int i) (.int j) M Q = ((0 < j ∧ j < 2 ^ 200) ∧ Q (.int (i / j)) M) := rfl
@[simp] theorem oMod_int (i j : Int) : oMod (.int i) (.int j) M Q = (0 < j ∧ Q (.int (i % j)) M) := rfl
@[simp] theorem oMul_str (x : Str) (k : Int) : oMul (.str x) (.int k) M Q = ((0 ≤ k ∧ k ≤ 1000 ∧ 1 ≤ x.length ∧ x.length ≤ 100) ∧ Q (.str (repS k.toNat x)) M) := rfl
@[simp] theorem oMul_lst (xs : List D) (k : Int) : oMul (.lst xs) (.int k) M Q = ((0 ≤ k ∧ k ≤ 1000 ∧ xs.length ≤ 100) ∧ Q (.lst (List.replicate k.toNat xs).flatten) M) := rfl
@[simp] theorem oCatN_ll (a b : List D) : oCatN (.lst a) (.lst b) M Q = (a.length + b.length ≤ 100000 ∧ ∀ p, M p = none → Q (.ref p) (mset M p (.lst (a ++ b)))) := rfl
@[simp] theorem oAddI_int (i j : Int) : oAddI (.int i) (.int j) M Q = Q (.int (i + j)) M := rfl
@[simp] theorem oMax_int (i j : Int) : oMax (.int i) (.int j) M Q = Q (.int (if j > i then j else i)) M := rfl
@[simp] theorem oRep_str (x : Str) (k : Int) : oRep (.str x) (.int k) M Q = ((1 ≤ k ∧ k ≤ 1000 ∧ 1 ≤ x.length ∧ x.length ≤ 100) ∧ Q (.str (repS k.toNat x)) M) := rfl
@[simp] theorem oPow_int (i j : Int) : oPow (.int i) (.int j) M Q = ((0 ≤ j ∧ j ≤ 1000000 ∧ i.natAbs < 2 ^ 64) ∧ Q (.int (i ^ j.toNat)) M) := rfl
@[simp] theorem oNeg_int (i : Int) : oNeg (.int i) M Q = Q (.int (-i)) M := rfl
@[simp] theorem oLt_int (i j : Int) : oLt (.int i) (.int j) M Q = Q (.bl (decide (i < j))) M := rfl
@[simp] theorem oLe_int (i j : Int) : oLe (.int i) (.int j) M Q = Q (.bl (decide (i ≤ j))) M := rfl
@[simp] theorem oGt_int (i j : Int) : oGt (.int i) (.int j) M Q = Q (.bl (decide (j < i))) M := rfl
@[simp] theorem oGe_int (i j : Int) : oGe (.int i) (.int j) M Q = Q (.bl (decide (j ≤ i))) M := rfl
@[simp] theorem eqB_str (a b : Str) : eqB (.str a) (.str b) M B = B (decide (a = b)) M := rfl
@[simp] theorem eqB_int (a b : Int) : eqB (.int a) (.int b) M B = B (decide (a = b)) M := rfl
@[simp] theorem eqB_bl (a b : Bool) : eqB (.bl a) (.bl b) M B = B (decide (a = b)) M := rfl
@[simp] theorem asC_tup (xs : List D) : asC M (.tup xs) = .tup xs := rfl
@[simp] theorem asC_lst (xs : List D) : asC M (.lst xs) = .lst xs := rfl
@[simp] theorem asC_str (x : Str) : asC M (.str x) = .str x := rfl
@[simp] theorem asC_int (x : Int) : asC M (.int x) = .int x := rfl
@[simp] theorem asC_bl (x : Bool) : asC M (.bl x) = .bl x := rfl
@[simp] theorem asC_non : asC M .non = .non := rfl
@[simp] theorem asC_ref (a : Addr) : asC M (.ref a) = (match M a with | some (.lst xs) => .lst xs | _ => .ref a) := rfl
@[simp] theorem eqB_non_non : eqB .non .non M B = (cmpOk (asC M .non) = true ∧ cmpOk (asC M .non) = true ∧ B (eqv (asC M .non) (asC M .non)) M) := rfl
@[simp] theorem eqB_non_bl (b2 : Bool) : eqB .non (.bl b2) M B = (cmpOk (asC M .non) = true ∧ cmpOk (asC M (.bl b2)) = true ∧ B (eqv (asC M .non) (asC M (.bl b2))) M) := rfl
@[simp] theorem eqB_non_int (i2 : Int) : eqB .non (.int i2) M B = (cmpOk (asC M .non) = true ∧ cmpOk (asC M (.int i2)) = true ∧ B (eqv (asC M .non) (asC M (.int i2))) M) := rfl
@[simp] theorem eqB_non_str (s2 : Str) : eqB .non (.str s2) M B = (cmpOk (asC M .non) = true ∧ cmpOk (asC M (.str s2)) = true ∧ B (eqv (asC M .non) (asC M (.str s2))) M) := rfl
@[simp] theorem eqB_non_tup (a2 : List D) : eqB .non (.tup a2) M B = (cmpOk (asC M .non) = true ∧ cmpOk (asC M (.tup a2)) = true ∧ B (eqv (asC M .non) (asC M (.tup a2))) M) := rfl
@[simp] theorem eqB_non_lst (l2 : List D) : eqB .non (.lst l2) M B = (cmpOk (asC M .non) = true ∧ cmpOk (asC M (.lst l2)) = true ∧ B (eqv (asC M .non) (asC M (.lst l2))) M) := rfl
@[simp] theorem eqB_non_ref (p2 : Addr) : eqB .non (.ref p2) M B = (cmpOk (asC M .non) = true ∧ cmpOk (asC M (.ref p2)) = true ∧ B (eqv (asC M .non) (asC M (.ref p2))) M) := rfl
@[simp] theorem eqB_bl_non (b1 : Bool) : eqB (.bl b1) .non M B = (cmpOk (asC M (.bl b1)) = true ∧ cmpOk (asC M .non) = true ∧ B (eqv (asC M (.bl b1)) (asC M .non)) M) := rfl
@[simp] theorem eqB_bl_int (b1 : Bool) (i2 : Int) : eqB (.bl b1) (.int i2) M B = (cmpOk (asC M (.bl b1)) = true ∧ cmpOk (asC M (.int i2)) = true ∧ B (eqv (asC M (.bl b1)) (asC M (.int i2))) M) := rfl
@[simp] theorem eqB_bl_str (b1 : Bool) (s2 : Str) : eqB (.bl b1) (.str s2) M B = (cmpOk (asC M (.bl b1)) = true ∧ cmpOk (asC M (.str s2)) = true ∧ B (eqv (asC M (.bl b1)) (asC M (.str s2))) M) := rfl
@[simp] theorem eqB_bl_tup (b1 : Bool) (a2 : List D) : eqB (.bl b1) (.tup a2) M B = (cmpOk (asC M (.bl b1)) = true ∧ cmpOk (asC M (.tup a2)) = true ∧ B (eqv (asC M (.bl b1)) (asC M (.tup a2))) M) := rfl
@[simp] theorem eqB_bl_lst (b1 : Bool) (l2 : List D) : eqB (.bl b1) (.lst l2) M B = (cmpOk (asC M (.bl b1)) = true ∧ cmpOk (asC M (.lst l2)) = true ∧ B (eqv (asC M (.bl b1)) (asC M (.lst l2))) M) := rfl
@[simp] theorem eqB_bl_ref (b1 : Bool) (p2 : Addr) : eqB (.bl b1) (.ref p2) M B = (cmpOk (asC M (.bl b1)) = true ∧ cmpOk (asC M (.ref p2)) = true ∧ B (eqv (asC M (.bl b1)) (asC M (.ref p2))) M) := rfl
@[simp] theorem eqB_int_non (i1 : Int) : eqB (.int i1) .non M B = (cmpOk (asC M (.int i1)) = true ∧ cmpOk (asC M .non) = true ∧ B (eqv (asC M (.int i1)) (asC M .non)) M) := rfl
@[simp] theorem eqB_int_bl (i1 : Int) (b2 : Bool) : eqB (.int i1) (.bl b2) M B = (cmpOk (asC M (.int i1)) = true ∧ cmpOk (asC M (.bl b2)) = true ∧ B (eqv (asC M (.int i1)) (asC M (.bl b2))) M) := rfl
@[simp] theorem eqB_int_str (i1 : Int) (s2 : Str) : eqB (.int i1) (.str s2) M B = (cmpOk (asC M (.int i1)) = true ∧ cmpOk (asC M (.str s2)) = true ∧ B (eqv (asC M (.int i1)) (asC M (.str s2))) M) := rfl
@[simp] theorem eqB_int_tup (i1 : Int) (a2 : List D) : eqB (.int i1) (.tup a2) M B = (cmpOk (asC M (.int i1)) = true ∧ cmpOk (asC M (.tup a2)) = true ∧ B (eqv (asC M (.int i1)) (asC M (.tup a2))) M) := rfl
@[simp] theorem eqB_int_lst (i1 : Int) (l2 : List D) : eqB (.int i1) (.lst l2) M B = (cmpOk (asC M (.int i1)) = true ∧ cmpOk (asC M (.lst l2)) = true ∧ B (eqv (asC M (.int i1)) (asC M (.lst l2))) M) := rfl
@[simp] theorem eqB_int_ref (i1 : Int) (p2 : Addr) : eqB (.int i1) (.ref p2) M B = (cmpOk (asC M (.int i1)) = true ∧ cmpOk (asC M (.ref p2)) = true ∧ B (eqv (asC M (.int i1)) (asC M (.ref p2))) M) := rfl
@[simp] theorem eqB_str_non (s1 : Str) : eqB (.str s1) .non M B = (cmpOk (asC M (.str s1)) = true ∧ cmpOk (asC M .non) = true ∧ B (eqv (asC M (.str s1)) (asC M .non)) M) := rfl
@[simp] theorem eqB_str_bl (s1 : Str) (b2 : Bool) : eqB (.str s1) (.bl b2) M B = (cmpOk (asC M (.str s1)) = true ∧ cmpOk (asC M (.bl b2)) = true ∧ B (eqv (asC M (.str s1)) (asC M (.bl b2))) M) := rfl
@[simp] theorem eqB_str_int (s1 : Str) (i2 : Int) : eqB (.str s1) (.int i2) M B = (cmpOk (asC M (.str s1)) = true ∧ cmpOk (asC M (.int i2)) = true ∧ B (eqv (asC M (.str s1)) (asC M (.int i2))) M) := rfl
@[simp] theorem eqB_str_tup (s1 : Str) (a2 : List D) : eqB (.str s1) (.tup a2) M B = (cmpOk (asC M (.str s1)) = true ∧ cmpOk (asC M (.tup a2)) = true ∧ B (eqv (asC M (.str s1)) (asC M (.tup a2))) M) := rfl
@[simp] theorem eqB_str_lst (s1 : Str) (l2 : List D) : eqB (.str s1) (.lst l2) M B = (cmpOk (asC M (.str s1)) = true ∧ cmpOk (asC M (.lst l2)) = true ∧ B (eqv (asC M (.str s1)) (asC M (.lst l2))) M) := rfl
@[simp] theorem eqB_str_ref (s1 : Str) (p2 : Addr) : eqB (.str s1) (.ref p2) M B = (cmpOk (asC M (.str s1)) = true ∧ cmpOk (asC M (.ref p2)) = true ∧ B (eqv (asC M (.str s1)) (asC M (.ref p2))) M) := rfl
@[simp] theorem eqB_tup_non (a1 : List D) : eqB (.tup a1) .non M B = (cmpOk (asC M (.tup a1)) = true ∧ cmpOk (asC M .non) = true ∧ B (eqv (asC M (.tup a1)) (asC M .non)) M) := rfl
@[simp] theorem eqB_tup_bl (a1 : List D) (b2 : Bool) : eqB (.tup a1) (.bl b2) M B = (cmpOk (asC M (.tup a1)) = true ∧ cmpOk (asC M (.bl b2)) = true ∧ B (eqv (asC M (.tup a1)) (asC M (.bl b2))) M) := rfl
@[simp] theorem eqB_tup_int (a1 : List D) (i2 : Int) : eqB (.tup a1) (.int i2) M B = (cmpOk (asC M (.tup a1)) = true ∧ cmpOk (asC M (.int i2)) = true ∧ B (eqv (asC M (.tup a1)) (asC M (.int i2))) M) := rfl
@[simp] theorem eqB_tup_str (a1 : List D) (s2 : Str) : eqB (.tup a1) (.str s2) M B = (cmpOk (asC M (.tup a1)) = true ∧ cmpOk (asC M (.str s2)) = true ∧ B (eqv (asC M (.tup a1)) (asC M (.str s2))) M) := rfl
@[simp] theorem eqB_tup_tup (a1 : List D) (a2 : List D) : eqB (.tup a1) (.tup a2) M B = (cmpOk (asC M (.tup a1)) = true ∧ cmpOk (asC M (.tup a2)) = true ∧ B (eqv (asC M (.tup a1)) (asC M (.tup a2))) M) := rfl
@[simp] theorem eqB_tup_lst (a1 : List D) (l2 : List D) : eqB (.tup a1) (.lst l2) M B = (cmpOk (asC M (.tup a1)) = true ∧ cmpOk (asC M (.lst l2)) = true ∧ B (eqv (asC M (.tup a1)) (asC M (.lst l2))) M) := rfl
@[simp] theorem eqB_tup_ref (a1 : List D) (p2 : Addr) : eqB (.tup a1) (.ref p2) M B = (cmpOk (asC M (.tup a1)) = true ∧ cmpOk (asC M (.ref p2)) = true ∧ B (eqv (asC M (.tup a1)) (asC M (.ref p2))) M) := rfl
@[simp] theorem eqB_lst_non (l1 : List D) : eqB (.lst l1) .non M B = (cmpOk (asC M (.lst l1)) = true ∧ cmpOk (asC M .non) = true ∧ B (eqv (asC M (.lst l1)) (asC M .non)) M) := rfl
@[simp] theorem eqB_lst_bl (l1 : List D) (b2 : Bool) : eqB (.lst l1) (.bl b2) M B = (cmpOk (asC M (.lst l1)) = true ∧ cmpOk (asC M (.bl b2)) = true ∧ B (eqv (asC M (.lst l1)) (asC M (.bl b2))) M) := rfl
@[simp] theorem eqB_lst_int (l1 : List D) (i2 : Int) : eqB (.lst l1) (.int i2) M B = (cmpOk (asC M (.lst l1)) = true ∧ cmpOk (asC M (.int i2)) = true ∧ B (eqv (asC M (.lst l1)) (asC M (.int i2))) M) := rfl
@[simp] theorem eqB_lst_str (l1 : List D) (s2 : Str) : eqB (.lst l1) (.str s2) M B = (cmpOk (asC M (.lst l1)) = true ∧ cmpOk (asC M (.str s2)) = true ∧ B (eqv (asC M (.lst l1)) (asC M (.str s2))) M) := rfl
@[simp] theorem eqB_lst_tup (l1 : List D) (a2 : List D) : eqB (.lst l1) (.tup a2) M B = (cmpOk (asC M (.lst l1)) = true ∧ cmpOk (asC M (.tup a2)) = true ∧ B (eqv (asC M (.lst l1)) (asC M (.tup a2))) M) := rfl
@[simp] theorem eqB_lst_lst (l1 : List D) (l2 : List D) : eqB (.lst l1) (.lst l2) M B = (cmpOk (asC M (.lst l1)) = true ∧ cmpOk (asC M (.lst l2)) = true ∧ B (eqv (asC M (.lst l1)) (asC M (.lst l2))) M) := rfl
@[simp] theorem eqB_lst_ref (l1 : List D) (p2 : Addr) : eqB (.lst l1) (.ref p2) M B = (cmpOk (asC M (.lst l1)) = true ∧ cmpOk (asC M (.ref p2)) = true ∧ B (eqv (asC M (.lst l1)) (asC M (.ref p2))) M) := rfl
@[simp] theorem eqB_ref_non (p1 : Addr) : eqB (.ref p1) .non M B = (cmpOk (asC M (.ref p1)) = true ∧ cmpOk (asC M .non) = true ∧ B (eqv (asC M (.ref p1)) (asC M .non)) M) := rfl
@[simp] theorem eqB_ref_bl (p1 : Addr) (b2 : Bool) : eqB (.ref p1) (.bl b2) M B = (cmpOk (asC M (.ref p1)) = true ∧ cmpOk (asC M (.bl b2)) = true ∧ B (eqv (asC M (.ref p1)) (asC M (.bl b2))) M) := rfl
@[simp] theorem eqB_ref_int (p1 : Addr) (i2 : Int) : eqB (.ref p1) (.int i2) M B = (cmpOk (asC M (.ref p1)) = true ∧ cmpOk (asC M (.int i2)) = true ∧ B (eqv (asC M (.ref p1)) (asC M (.int i2))) M) := rfl
@[simp] theorem eqB_ref_str (p1 : Addr) (s2 : Str) : eqB (.ref p1) (.str s2) M B = (cmpOk (asC M (.ref p1)) = true ∧ cmpOk (asC M (.str s2)) = true ∧ B (eqv (asC M (.ref p1)) (asC M (.str s2))) M) := rfl
@[simp] theorem eqB_ref_tup (p1 : Addr) (a2 : List D) : eqB (.ref p1) (.tup a2) M B = (cmpOk (asC M (.ref p1)) = true ∧ cmpOk (asC M (.tup a2)) = true ∧ B (eqv (asC M (.ref p1)) (asC M (.tup a2))) M) := rfl
@[simp] theorem eqB_ref_lst (p1 : Addr) (l2 : List D) : eqB (.ref p1) (.lst l2) M B = (cmpOk (asC M (.ref p1)) = true ∧ cmpOk (asC M (.lst l2)) = true ∧ B (eqv (asC M (.ref p1)) (asC M (.lst l2))) M) := rfl
@[simp] theorem eqB_ref_ref (p1 : Addr) (p2 : Addr) : eqB (.ref p1) (.ref p2) M B = (cmpOk (asC M (.ref p1)) = true ∧ cmpOk (asC M (.ref p2)) = true ∧ B (eqv (asC M (.ref p1)) (asC M (.ref p2))) M) := rfl
@[simp] theorem oIsN_non : oIsN .non M Q = Q (.bl true) M := rfl
@[simp] theorem oNotN_non : oNotN .non M Q = Q (.bl false) M := rfl
@[simp] theorem oIsN_bl (b1 : Bool) : oIsN (.bl b1) M Q = Q (.bl false) M := rfl
@[simp] theorem oNotN_bl (b1 : Bool) : oNotN (.bl b1) M Q = Q (.bl true) M := rfl
@[simp] theorem oIsN_int (i1 : Int) : oIsN (.int i1) M Q = Q (.bl false) M := rfl
@[simp] theorem oNotN_int (i1 : Int) : oNotN (.int i1) M Q = Q (.bl true) M := rfl
@[simp] theorem oIsN_str (s1 : Str) : oIsN (.str s1) M Q = Q (.bl false) M := rfl
@[simp] theorem oNotN_str (s1 : Str) : oNotN (.str s1) M Q = Q (.bl true) M := rfl
@[simp] theorem oIsN_tup (a1 : List D) : oIsN (.tup a1) M Q = Q (.bl false) M := rfl
@[simp] theorem oNotN_tup (a1 : List D) : oNotN (.tup a1) M Q = Q (.bl true) M := rfl
@[simp] theorem oIsN_lst (l1 : List D) : oIsN (.lst l1) M Q = Q (.bl false) M := rfl
@[simp] theorem oNotN_lst (l1 : List D) : oNotN (.lst l1) M Q = Q (.bl true) M := rfl
@[simp] theorem oIsN_ref (p1 : Addr) : oIsN (.ref p1) M Q = Q (.bl false) M := rfl
@[simp] theorem oNotN_ref (p1 : Addr) : oNotN (.ref p1) M Q = Q (.bl true) M := rfl
@[simp] theorem oIsN_rol (r1 : List D) : oIsN (.rol r1) M Q = Q (.bl false) M := rfl
@[simp] theorem oNotN_rol (r1 : List D) : oNotN (.rol r1) M Q = Q (.bl true) M := rfl
@[simp] theorem oIsN_dK (ks : List Key) (vs : List D) : oIsN (.dK ks vs) M Q = Q (.bl false) M := rfl
@[simp] theorem oNotN_dK (ks : List Key) (vs : List D) : oNotN (.dK ks vs) M Q = Q (.bl true) M := rfl
@[simp] theorem oIsN_dT (ks : List (List Key)) (vs : List D) : oIsN (.dT ks vs) M Q = Q (.bl false) M := rfl
@[simp] theorem oNotN_dT (ks : List (List Key)) (vs : List D) : oNotN (.dT ks vs) M Q = Q (.bl true) M := rfl
@[simp] theorem oIsN_ins (C : Addr) (ns : List Str) (vs : List D) : oIsN (.ins C ns vs) M Q = Q (.bl false) M := rfl
@[simp] theorem oNotN_ins (C : Addr) (ns : List Str) (vs : List D) : oNotN (.ins C ns vs) M Q = Q (.bl true) M := rfl
@[simp] theorem inB_str (a b : Str) : inB (.str a) (.str b) M B = (∃ c, a = ⟨#[c]⟩ ∧ B (decide (c ∈ b.cps.toList)) M) := rfl
@[simp] theorem inB_tup (x : D) (ys : List D) : inB x (.tup ys) M B = (flat x = true ∧ ys.all flat = true ∧ B (hasD ys x) M) := by cases x <;> rfl
@[simp] theorem inB_lst (x : D) (ys : List D) : inB x (.lst ys) M B = (flat x = true ∧ ys.all flat = true ∧ B (hasD ys x) M) := by cases x <;> rfl
@[simp] theorem inB_rol (x : D) (ys : List D) : inB x (.rol ys) M B = (flat x = true ∧ ys.all flat = true ∧ B (hasD ys x) M) := by cases x <;> rfl
@[simp] theorem inB_ref (x : D) (a : Addr) : inB x (.ref a) M B = (match M a with | some (.lst ys) => flat x = true ∧ ys.all flat = true ∧ B (hasD ys x) M | _ => False) := by
  cases x <;> (simp only [inB, asS, asL]; cases M a with
    | none => rfl
    | some o => cases o <;> rfl)
@[simp] theorem oIx_str (s : Str) (i : Int) : oIx (.str s) (.int i) M Q = (s.length ≤ 100000 ∧ (match atI s.cps.toList i with | some c => Q (.str ⟨#[c]⟩) M | none => False)) := rfl
@[simp] theorem oIx_tup (xs : List D) (i : Int) : oIx (.tup xs) (.int i) M Q = (match atI xs i with | some v => Q v M | none => False) := rfl
@[simp] theorem oIx_lst (xs : List D) (i : Int) : oIx (.lst xs) (.int i) M Q = (match atI xs i with | some v => Q v M | none => False) := rfl
@[simp] theorem oIx_rol (xs : List D) (i : Int) : oIx (.rol xs) (.int i) M Q = (match atI xs i with | some v => Q v M | none => False) := rfl
@[simp] theorem oIx_ref (a : Addr) (i : Int) : oIx (.ref a) (.int i) M Q = (match M a with | some (.lst xs) => (match atI xs i with | some v => Q v M | none => False) | _ => False) := by
  simp only [oIx, asS, asL]
  cases M a with
  | none => rfl
  | some o => cases o <;> rfl
@[simp] theorem oLen_str (s : Str) : oLen (.str s) M Q = (s.length ≤ 100000 ∧ Q (.int s.length) M) := rfl
@[simp] theorem oLen_tup (xs : List D) : oLen (.tup xs) M Q = Q (.int xs.length) M := rfl
@[simp] theorem oLen_lst (xs : List D) : oLen (.lst xs) M Q = Q (.int xs.length) M := rfl
@[simp] theorem oLen_rol (xs : List D) : oLen (.rol xs) M Q = Q (.int xs.length) M := rfl
@[simp] theorem oLen_ref (a : Addr) : oLen (.ref a) M Q = (match M a with | some (.lst xs) => Q (.int xs.length) M | _ => False) := by
  simp only [oLen, asS, asL]
  cases M a with
  | none => rfl
  | some o => cases o <;> rfl
@[simp] theorem oCut_str (s : Str) (lo hi : Option Int) : oCut (.str s) lo hi M Q = (s.length ≤ 100000 ∧ Q (.str ⟨(cut s.cps.toList lo hi).toArray⟩) M) := rfl
@[simp] theorem oCut_tup (xs : List D) (lo hi : Option Int) : oCut (.tup xs) lo hi M Q = Q (.tup (cut xs lo hi)) M := rfl
@[simp] theorem oCut_lst (xs : List D) (lo hi : Option Int) : oCut (.lst xs) lo hi M Q = Q (.lst (cut xs lo hi)) M := rfl
@[simp] theorem oCut_rol (xs : List D) (lo hi : Option Int) : oCut (.rol xs) lo hi M Q = Q (.lst (cut xs lo hi)) M := rfl
@[simp] theorem oCut_ref (a : Addr) (lo hi : Option Int) : oCut (.ref a) lo hi M Q = (match M a with | some (.lst xs) => Q (.lst (cut xs lo hi)) M | _ => False) := by
  simp only [oCut, asL]
  cases M a with
  | none => rfl
  | some o => cases o <;> rfl
@[simp] theorem oAbs_int (i : Int) : oAbs (.int i) M Q = Q (.int (if i < 0 then -i else i)) M := rfl
@[simp] theorem oInt_int (i : Int) : oInt (.int i) M Q = Q (.int i) M := rfl
@[simp] theorem oInt_bl (b : Bool) : oInt (.bl b) M Q = Q (.int (if b then 1 else 0)) M := rfl
@[simp] theorem oStr_int (i : Int) : oStr (.int i) M Q = (i.natAbs < 2 ^ 200 ∧ Q (.str (toString i)) M) := rfl
@[simp] theorem oTuple_tup (xs : List D) : oTuple (.tup xs) M Q = Q (.tup xs) M := rfl
@[simp] theorem oTuple_lst (xs : List D) : oTuple (.lst xs) M Q = Q (.tup xs) M := rfl
@[simp] theorem oTuple_rol (xs : List D) : oTuple (.rol xs) M Q = Q (.tup xs) M := rfl
@[simp] theorem oTuple_ref (a : Addr) : oTuple (.ref a) M Q = (match M a with | some (.lst xs) => Q (.tup xs) M | _ => False) := by
  simp only [oTuple, asL]
  cases M a with
  | none => rfl
  | some o => cases o <;> rfl
@[simp] theorem oList_tup (xs : List D) : oList (.tup xs) M Q = Q (.lst xs) M := rfl
@[simp] theorem oList_lst (xs : List D) : oList (.lst xs) M Q = Q (.lst xs) M := rfl
@[simp] theorem oList_rol (xs : List D) : oList (.rol xs) M Q = Q (.lst xs) M := rfl
@[simp] theorem oList_ref (a : Addr) : oList (.ref a) M Q = (match M a with | some (.lst xs) => Q (.lst xs) M | _ => False) := by
  simp only [oList, asS, asL]
  cases M a with
  | none => rfl
  | some o => cases o <;> rfl
@[simp] theorem oAll_lst (xs : List D) : oAll (.lst xs) M Q = (match dBools xs with | some bs => Q (.bl (bs.all id)) M | none => False) := rfl
@[simp] theorem oAny_lst (xs : List D) : oAny (.lst xs) M Q = (match dBools xs with | some bs => Q (.bl (bs.any id)) M | none => False) := rfl
@[simp] theorem oSum_lst (xs : List D) : oSum (.lst xs) M Q = (match dInts xs with | some bs => Q (.int bs.sum) M | none => False) := rfl
@[simp] theorem mAppend_ref (l : Addr) (x : D) : mAppend (.ref l) x M Q = (match M l with | some (.lst xs) => xs.length < 100000 ∧ Q .non (mset M l (.lst (xs ++ [x]))) | _ => False) := rfl
@[simp] theorem mPop_ref (l : Addr) : mPop (.ref l) M Q = (match M l with | some (.lst xs) => (match xs[xs.length - 1]? with | some y => Q y (mset M l (.lst xs.dropLast)) | none => False) | _ => False) := rfl
@[simp] theorem mPopAt_ref (l : Addr) (i : Int) : mPopAt (.ref l) (.int i) M Q = (match M l with | some (.lst xs) => (-(2 ^ 63) ≤ i ∧ i < 2 ^ 63) ∧ (match ixN xs.length i with | some k => (match xs[k]? with | some y => Q y (mset M l (.lst (xs.eraseIdx k))) | none => False) | none => False) | _ => False) := rfl
@[simp] theorem tyOf_non : tyOf M .non = "NoneType" := rfl
@[simp] theorem tyOf_bl (b : Bool) : tyOf M (.bl b) = "bool" := rfl
@[simp] theorem tyOf_int (b : Int) : tyOf M (.int b) = "int" := rfl
@[simp] theorem tyOf_str (b : Str) : tyOf M (.str b) = "str" := rfl
@[simp] theorem tyOf_tup (b : List D) : tyOf M (.tup b) = "tuple" := rfl
@[simp] theorem tyOf_lst (b : List D) : tyOf M (.lst b) = "list" := rfl
@[simp] theorem tyOf_dK (ks : List Key) (b : List D) : tyOf M (.dK ks b) = "dict" := rfl
@[simp] theorem tyOf_dT (ks : List (List Key)) (b : List D) : tyOf M (.dT ks b) = "dict" := rfl
@[simp] theorem tyOf_ref (a : Addr) : tyOf M (.ref a) = (match M a with | some (.lst _) => "list" | some (.dK _ _) => "dict" | some (.dT _ _) => "dict" | _ => "") := rfl
@[simp] theorem flat_non : flat .non = true := rfl
@[simp] theorem flat_bl (b : Bool) : flat (.bl b) = true := rfl
@[simp] theorem flat_int (b : Int) : flat (.int b) = true := rfl
@[simp] theorem flat_str (b : Str) : flat (.str b) = true := rfl
@[simp] theorem dBools_nil : dBools [] = some [] := rfl
@[simp] theorem dBools_cons (b : Bool) (r : List D) : dBools (.bl b :: r) = (dBools r).map (b :: ·) := rfl
@[simp] theorem dInts_nil : dInts [] = some [] := rfl
@[simp] theorem dInts_cons (b : Int) (r : List D) : dInts (.int b :: r) = (dInts r).map (b :: ·) := rfl
@[simp] theorem enumD_nil (n : Nat) : enumD n [] = [] := rfl
@[simp] theorem enumD_cons (n : Nat) (x : D) (xs : List D) : enumD n (x :: xs) = .tup [.int (n : Int), x] :: enumD (n + 1) xs := rfl
@[simp] theorem zipD_nil (ys : List D) : zipD [] ys = [] := rfl
@[simp] theorem zipD_nil' (x : D) (xs : List D) : zipD (x :: xs) [] = [] := rfl
@[simp] theorem zipD_cons (x y : D) (xs ys : List D) : zipD (x :: xs) (y :: ys) = .tup [x, y] :: zipD xs ys := rfl
end
end DL
/-! DLS: the readings of DLP are kept by the hand layer's. -/
namespace DL
open PySem PySem.Spec PyProof.Rows L2

/-- the written part, and the places that nothing may name -/
structure Fg where
  K : PySem.W.Frag
  P : Addr → Prop
abbrev St := L2.St
theorem szLe {n : Nat} (h : n ≤ 100000) : n ≤ sizeLine := Nat.le_trans h (by decide)
theorem szLt {n : Nat} (h : n < 100000) : n < sizeLine := Nat.lt_of_lt_of_le h (by decide)

/-! ### what stands for what -/
def KT (K : Fg) (a : Addr) (xs : List V) : Prop := ∃ (o : Obj) (its : Array Value) (n : Nat), K.K.lookup a = some o ∧ o.cls = .type "tuple" ∧ o.data = .seq its n ∧ its.size ≤ sizeLine ∧ Vals xs its.toList
def KL (K : Fg) (a : Addr) (xs : List V) : Prop := ∃ (o : Obj) (its : Array Value) (n : Nat), K.K.lookup a = some o ∧ o.cls = .type "list" ∧ o.dict = none ∧ o.data = .seq its n ∧ its.size ≤ sizeLine ∧ Vals xs its.toList
def TqT (K : Fg) (H : Hp) (M : Mem) (a : Addr) (xs : List V) : Prop := (H a = some (.tup xs) ∧ M a = none ∧ ¬ K.P a) ∨ KT K a xs
def TqR (K : Fg) (H : Hp) (M : Mem) (a : Addr) (xs : List V) : Prop := (Rd H a (.lst xs) ∧ M a = none ∧ ¬ K.P a) ∨ KL K a xs
theorem TqT.sq {K : Fg} {H : Hp} {M : Mem} {a : Addr} {xs : List V} (h : TqT K H M a xs) : SqT K.K H a xs := by
  rcases h with ⟨h, _⟩ | h
  · exact .inl (.inl h)
  · exact .inr h
theorem TqR.sq {K : Fg} {H : Hp} {M : Mem} {a : Addr} {xs : List V} (h : TqR K H M a xs) : SqL K.K H a xs := by
  rcases h with ⟨h, _⟩ | h
  · exact .inl h
  · exact .inr h
mutual
def Rep (K : Fg) (H : Hp) (M : Mem) : D → V → Prop
  | .non, v => v = .non
  | .bl b, v => v = .bl b
  | .int i, v => v = .int i
  | .str x, v => v = .str x
  | .ref a, v => v = .ref a
  | .tup ds, v => ∃ a vs, v = .ref a ∧ TqT K H M a vs ∧ Reps K H M ds vs
  | .lst ds, v => ∃ a vs, v = .ref a ∧ (H a = some (.lst vs) ∧ M a = none ∧ ¬ K.P a) ∧ Reps K H M ds vs
  | .rol ds, v => ∃ a vs, v = .ref a ∧ TqR K H M a vs ∧ Reps K H M ds vs
  | .dK ks ds, v => ∃ a vs, v = .ref a ∧ (H a = some (.dK (ks.zip vs)) ∧ M a = none ∧ ¬ K.P a) ∧ ks.length = vs.length ∧ Reps K H M ds vs
  | .dT ks ds, v => ∃ a vs, v = .ref a ∧ (H a = some (.dT (ks.zip vs)) ∧ M a = none ∧ ¬ K.P a) ∧ ks.length = vs.length ∧ Reps K H M ds vs
  | .ins C ns ds, v => ∃ a dx vs, v = .ref a ∧ (H a = some (.ins C dx (ns.zip vs)) ∧ M a = none ∧ ¬ K.P a) ∧ ns.length = vs.length ∧ Reps K H M ds vs
  | .ty n, v => v = .ty n
  | .cls C, v => v = .ref C
def Reps (K : Fg) (H : Hp) (M : Mem) : List D → List V → Prop
  | [], vs => vs = []
  | d :: ds, vs => ∃ v r, vs = v :: r ∧ Rep K H M d v ∧ Reps K H M ds r
end
/-- the contents of a deck, by its kind -/
def DeckI : Nat → Option HO → List (Option HO) → List Addr → List (Option HO) → List Addr → Nat → Prop
  | 0, o, os, ps, _, _, b => ∃ (dg cl : Addr) (n : Int) (ds cs : List Int), ps = [dg, cl] ∧ dg ≠ cl ∧ o = some (.lst [.ref dg, .ref cl, .int n]) ∧ os = [some (.lst (ds.map V.int)), some (.lst (cs.map V.int))] ∧
      (∀ x ∈ ds, 0 ≤ x ∧ x < 2147483629) ∧ (∀ x ∈ cs, 0 ≤ x ∧ x < 2147483629) ∧ cs ≠ [] ∧ 0 ≤ n ∧ n + b ≤ 2 ^ 40
  | 1, o, os, ps, fos, fs, b => ∃ (ca rs : Addr) (n : Int) (cs rr : List Int), ps = [rs] ∧ fs = [ca] ∧ o = some (.lst [.ref ca, .int n, .ref rs]) ∧ os = [some (.lst (rr.map V.int))] ∧ fos = [some (.lst (cs.map V.int))] ∧
      (∀ x ∈ cs, 0 ≤ x) ∧ (∀ x ∈ rr, 0 ≤ x) ∧ cs ≠ [] ∧ rr.length = cs.length ∧ 0 ≤ n ∧ n + b ≤ 2 ^ 40
  | _, _, _, _, _, _, _ => False
/-- a deck: its own parts, and lists that never change -/
def DeckRep (K : Fg) (kind : Nat) (H : Hp) (M : Mem) (a : Addr) (b : Nat) : Prop := ∃ ps fs : List Addr, (∀ p ∈ ps, M p = some (.part a) ∧ p ≠ a) ∧ (∀ f ∈ fs, (∃ o, H f = some o) ∧ M f = none ∧ ¬ K.P f) ∧ DeckI kind (H a) (ps.map H) ps (fs.map H) fs b
def ORep (K : Fg) (H : Hp) (M : Mem) (a : Addr) : MO → Prop
  | .lst ds => ∃ vs, H a = some (.lst vs) ∧ Reps K H M ds vs
  | .dK ks ds => ∃ vs, H a = some (.dK (ks.zip vs)) ∧ ks.length = vs.length ∧ Reps K H M ds vs
  | .dT ks ds => ∃ vs, H a = some (.dT (ks.zip vs)) ∧ ks.length = vs.length ∧ Reps K H M ds vs
  | .ins C ns ds => ∃ dx vs, H a = some (.ins C dx (ns.zip vs)) ∧ ns.length = vs.length ∧ Reps K H M ds vs
  | .tupP ds => ∃ vs o, H a = some (.frz o (.tup vs)) ∧ o.dict = none ∧ Reps K H M ds vs
  | .deck kind b => DeckRep K kind H M a b
  | .part _ => ∃ o, H a = some o
structure MRep (K : Fg) (H : Hp) (M : Mem) : Prop where
  obj : ∀ a o, M a = some o → ORep K H M a o
  prv : ∀ a, K.P a → (∃ o, H a = some o) ∧ M a = none
/-- what is tracked and not of the memory stays so -/
def Fr (H : Hp) (M : Mem) (H' : Hp) (M' : Mem) : Prop := ∀ a o, H a = some o → M a = none → H' a = some o ∧ M' a = none
theorem Fr.refl (H : Hp) (M : Mem) : Fr H M H M := fun _ _ h m => ⟨h, m⟩
theorem Fr.trans {H H1 H2 : Hp} {M M1 M2 : Mem} (a : Fr H M H1 M1) (b : Fr H1 M1 H2 M2) : Fr H M H2 M2 := fun x o h m => b x o (a x o h m).1 (a x o h m).2
theorem Fr.new {H : Hp} {M : Mem} {p : Addr} {o : HO} (h : H p = none) : Fr H M (upd H p o) M := fun a u e m => ⟨by rw [upd_ne (ne_of_none e h)]; exact e, m⟩
section
variable {K : Fg} {H H' H1 : Hp} {M M' M1 : Mem} {a p : Addr} {vs xs : List V} {ds : List D} {d : D} {v : V}
theorem TqT.mono (f : Fr H M H' M') (h : TqT K H M a xs) : TqT K H' M' a xs := by
  rcases h with ⟨h, m, p⟩ | h
  · exact .inl ⟨(f _ _ h m).1, (f _ _ h m).2, p⟩
  · exact .inr h
theorem TqR.mono (f : Fr H M H' M') (h : TqR K H M a xs) : TqR K H' M' a xs := by
  rcases h with ⟨h | ⟨o, h⟩, m, p⟩ | h
  · exact .inl ⟨.inl (f _ _ h m).1, (f _ _ h m).2, p⟩
  · exact .inl ⟨.inr ⟨o, (f _ _ h m).1⟩, (f _ _ h m).2, p⟩
  · exact .inr h
mutual
theorem Rep.mono (f : Fr H M H' M') : ∀ {d : D} {v : V}, Rep K H M d v → Rep K H' M' d v
  | .non, _, h => h
  | .bl _, _, h => h
  | .int _, _, h => h
  | .str _, _, h => h
  | .ref _, _, h => h
  | .ty _, _, h => h
  | .cls _, _, h => h
  | .tup ds, _, ⟨a, vs, e, q, r⟩ => ⟨a, vs, e, q.mono f, Reps.mono f r⟩
  | .lst ds, _, ⟨a, vs, e, q, r⟩ => ⟨a, vs, e, ⟨(f _ _ q.1 q.2.1).1, (f _ _ q.1 q.2.1).2, q.2.2⟩, Reps.mono f r⟩
  | .rol ds, _, ⟨a, vs, e, q, r⟩ => ⟨a, vs, e, q.mono f, Reps.mono f r⟩
  | .dK ks ds, _, ⟨a, vs, e, q, z, r⟩ => ⟨a, vs, e, ⟨(f _ _ q.1 q.2.1).1, (f _ _ q.1 q.2.1).2, q.2.2⟩, z, Reps.mono f r⟩
  | .dT ks ds, _, ⟨a, vs, e, q, z, r⟩ => ⟨a, vs, e, ⟨(f _ _ q.1 q.2.1).1, (f _ _ q.1 q.2.1).2, q.2.2⟩, z, Reps.mono f r⟩
  | .ins C ns ds, _, ⟨a, dx, vs, e, q, z, r⟩ => ⟨a, dx, vs, e, ⟨(f _ _ q.1 q.2.1).1, (f _ _ q.1 q.2.1).2, q.2.2⟩, z, Reps.mono f r⟩
theorem Reps.mono (f : Fr H M H' M') : ∀ {ds : List D} {vs : List V}, Reps K H M ds vs → Reps K H' M' ds vs
  | [], _, h => h
  | d :: ds, _, ⟨v, r, e, h, t⟩ => ⟨v, r, e, Rep.mono f h, Reps.mono f t⟩
end
theorem Reps.length : ∀ {ds : List D} {vs : List V}, Reps K H M ds vs → ds.length = vs.length
  | [], _, h => by rw [show _ = [] from h]; rfl
  | d :: ds, _, ⟨v, r, e, h, t⟩ => by rw [e, List.length_cons, List.length_cons, Reps.length t]
theorem Reps.get : ∀ {ds : List D} {vs : List V} {i : Nat} {d : D}, Reps K H M ds vs → ds[i]? = some d → ∃ v, vs[i]? = some v ∧ Rep K H M d v
  | [], _, _, _, _, e => by simp at e
  | d :: ds, _, 0, _, ⟨v, r, rfl, h, t⟩, e => by
    simp only [List.getElem?_cons_zero, Option.some.injEq] at e
    subst e
    exact ⟨v, rfl, h⟩
  | d :: ds, _, i + 1, x, ⟨v, r, rfl, h, t⟩, e => by
    simp only [List.getElem?_cons_succ] at e ⊢
    exact Reps.get t e
theorem Reps.append : ∀ {ds es : List D} {vs ws : List V}, Reps K H M ds vs → Reps K H M es ws → Reps K H M (ds ++ es) (vs ++ ws)
  | [], _, _, _, h, g => by rw [show _ = [] from h]; exact g
  | d :: ds, _, _, _, ⟨v, r, rfl, h, t⟩, g => ⟨v, r ++ _, rfl, h, Reps.append t g⟩
theorem Reps.drop : ∀ {ds : List D} {vs : List V} (n : Nat), Reps K H M ds vs → Reps K H M (ds.drop n) (vs.drop n)
  | _, _, 0, h => h
  | [], _, n + 1, h => by rw [show _ = [] from h]; rfl
  | d :: ds, _, n + 1, ⟨v, r, rfl, h, t⟩ => Reps.drop n t
theorem Reps.take : ∀ {ds : List D} {vs : List V} (n : Nat), Reps K H M ds vs → Reps K H M (ds.take n) (vs.take n)
  | _, _, 0, h => rfl
  | [], _, n + 1, h => by rw [show _ = [] from h]; rfl
  | d :: ds, _, n + 1, ⟨v, r, rfl, h, t⟩ => ⟨v, r.take n, rfl, h, Reps.take n t⟩
theorem Reps.set : ∀ {ds : List D} {vs : List V} (n : Nat), Reps K H M ds vs → Rep K H M d v → Reps K H M (ds.set n d) (vs.set n v)
  | [], _, n, h, _ => by rw [show _ = [] from h]; rfl
  | e :: ds, _, 0, ⟨u, r, rfl, h, t⟩, q => ⟨v, r, rfl, q, t⟩
  | e :: ds, _, n + 1, ⟨u, r, rfl, h, t⟩, q => ⟨u, r.set n v, rfl, h, Reps.set n t q⟩
theorem Reps.eraseIdx : ∀ {ds : List D} {vs : List V} (n : Nat), Reps K H M ds vs → Reps K H M (ds.eraseIdx n) (vs.eraseIdx n)
  | [], _, n, h => by rw [show _ = [] from h]; rfl
  | e :: ds, _, 0, ⟨u, r, rfl, h, t⟩ => t
  | e :: ds, _, n + 1, ⟨u, r, rfl, h, t⟩ => ⟨u, r.eraseIdx n, rfl, h, Reps.eraseIdx n t⟩
theorem Reps.dropLast : ∀ {ds : List D} {vs : List V}, Reps K H M ds vs → Reps K H M ds.dropLast vs.dropLast := fun {ds vs} h => by
  rw [List.dropLast_eq_take, List.dropLast_eq_take, ← h.length]
  exact h.take _
theorem Reps.snoc (h : Reps K H M ds vs) (q : Rep K H M d v) : Reps K H M (ds ++ [d]) (vs ++ [v]) := h.append ⟨v, [], rfl, q, rfl⟩
theorem Reps.one (q : Rep K H M d v) : Reps K H M [d] [v] := ⟨v, [], rfl, q, rfl⟩
theorem Reps.cut (h : Reps K H M ds vs) (lo hi : Option Int) : Reps K H M (cut ds lo hi) (cutV vs lo hi) := by
  unfold DL.cut cutV
  rw [h.length]
  exact (h.drop _).take _
theorem atI_rep {i : Int} (h : Reps K H M ds vs) (e : DL.atI ds i = some d) : ∃ v, L2.atI vs i = some v ∧ Rep K H M d v := by
  unfold DL.atI at e
  unfold L2.atI
  rw [← h.length]
  show ∃ v, (DL.ixN ds.length i).bind (fun j => vs[j]?) = some v ∧ _
  cases q : DL.ixN ds.length i with
  | none => rw [q] at e; cases e
  | some j =>
    rw [q] at e
    exact h.get (show ds[j]? = some d from e)
/-! ### the memory's steps -/
theorem DeckRep.keep {K' : Fg} {kind b : Nat} (h : DeckRep K kind H M a b) (ka : ∀ x o, (M x = some (.part a) ∨ x = a) → H x = some o → H' x = some o) (kn : ∀ x, (M x = some (.part a) ∨ x = a) → H x = none → H' x = none) (km : ∀ x, M x = some (.part a) → M' x = some (.part a))
    (kf : ∀ x o, H x = some o → M x = none → ¬ K.P x → H' x = some o ∧ M' x = none ∧ ¬ K'.P x) : DeckRep K' kind H' M' a b := by
  have eq : ∀ x, (M x = some (.part a) ∨ x = a) → H' x = H x := fun x q => by
    cases e : H x with
    | none => exact kn x q e
    | some o => exact ka x o q e
  obtain ⟨ps, fs, hp, hf, hi⟩ := h
  refine ⟨ps, fs, fun p q => ⟨km p (hp p q).1, (hp p q).2⟩, fun f q => ?_, ?_⟩
  · obtain ⟨⟨o, e⟩, m, n⟩ := hf f q
    have z := kf f o e m n
    exact ⟨⟨o, z.1⟩, z.2⟩
  · rw [eq a (.inr rfl), show ps.map H' = ps.map H from List.map_congr_left fun p q => eq p (.inl (hp p q).1), show fs.map H' = fs.map H from List.map_congr_left fun f q => by
      obtain ⟨⟨o, e⟩, m, n⟩ := hf f q
      rw [(kf f o e m n).1, e]]
    exact hi
theorem MRep.part {c : Addr} (m : MRep K H M) (h : M a = some (.part c)) : ∃ o, H a = some o := m.obj a _ h
theorem DeckRep.there {kind b : Nat} (h : DeckRep K kind H M a b) : ∃ o, H a = some o := by
  obtain ⟨ps, fs, _, _, hi⟩ := h
  match kind, hi with
  | 0, hi =>
    obtain ⟨dg, cl, n, x, y, _, _, e, _⟩ := hi
    exact ⟨_, e⟩
  | 1, hi =>
    obtain ⟨ca, rs, n, x, y, _, _, e, _⟩ := hi
    exact ⟨_, e⟩
theorem MRep.there (m : MRep K H M) {o : MO} (h : M a = some o) : ∃ u, H a = some u := by
  have q := m.obj a o h
  cases o with
  | lst ds => obtain ⟨vs, e, _⟩ := q; exact ⟨_, e⟩
  | dK ks ds => obtain ⟨vs, e, _⟩ := q; exact ⟨_, e⟩
  | dT ks ds => obtain ⟨vs, e, _⟩ := q; exact ⟨_, e⟩
  | ins C ns ds => obtain ⟨dx, vs, e, _⟩ := q; exact ⟨_, e⟩
  | tupP ds => obtain ⟨vs, o, e, _⟩ := q; exact ⟨_, e⟩
  | deck k b => exact DeckRep.there q
  | part _ => exact q
theorem MRep.free (m : MRep K H M) (h : H a = none) : M a = none := by
  cases e : M a with
  | none => rfl
  | some o =>
    obtain ⟨u, q⟩ := m.there e
    rw [h] at q; cases q
/-- an object other than l is as it was -/
theorem ORep.keep {o : MO} (m : MRep K H M) (h : ORep K H M a o) (ha : M a = some o) (f : Fr H M H' M') (l : Addr) (hl : a ≠ l) (hp : ∀ c, M l ≠ some (.part c)) (kh : ∀ x u, x ≠ l → H x = some u → H' x = some u) (km : ∀ x, x ≠ l → M' x = M x) : ORep K H' M' a o := by
  cases o with
  | lst ds => obtain ⟨vs, e, r⟩ := h; exact ⟨vs, kh _ _ hl e, r.mono f⟩
  | dK ks ds => obtain ⟨vs, e, z, r⟩ := h; exact ⟨vs, kh _ _ hl e, z, r.mono f⟩
  | dT ks ds => obtain ⟨vs, e, z, r⟩ := h; exact ⟨vs, kh _ _ hl e, z, r.mono f⟩
  | ins C ns ds => obtain ⟨dx, vs, e, z, r⟩ := h; exact ⟨dx, vs, kh _ _ hl e, z, r.mono f⟩
  | tupP ds => obtain ⟨vs, o, e, z, r⟩ := h; exact ⟨vs, o, kh _ _ hl e, z, r.mono f⟩
  | deck k b =>
    have nl : ∀ x, (M x = some (.part a) ∨ x = a) → x ≠ l := fun x q z => by
      rcases q with q | q
      · exact hp a (z ▸ q)
      · exact hl (q ▸ z)
    refine DeckRep.keep (M' := M') h (fun x u q e => kh x u (nl x q) e) (fun x q e => ?_) (fun x q => (km x (nl x (.inl q))).trans q) (fun x o e m p => ⟨(f x o e m).1, (f x o e m).2, p⟩)
    rcases q with q | q
    · obtain ⟨u, w⟩ := m.there q
      rw [e] at w; cases w
    · obtain ⟨u, w⟩ := DeckRep.there h
      rw [q, w] at e; cases e
  | part _ => obtain ⟨u, e⟩ := h; exact ⟨u, kh _ _ hl e⟩
theorem MRep.prv_step (m : MRep K H M) (f : Fr H M H' M') : ∀ a, K.P a → (∃ o, H' a = some o) ∧ M' a = none := fun a h => by
  obtain ⟨⟨o, e⟩, q⟩ := m.prv a h
  exact ⟨⟨o, (f a o e q).1⟩, (f a o e q).2⟩
theorem MRep.nprv (m : MRep K H M) (h : H p = none) : ¬ K.P p := fun q => by
  obtain ⟨⟨o, e⟩, _⟩ := m.prv p q
  rw [h] at e; cases e
theorem MRep.new {o : HO} (m : MRep K H M) (h : H p = none) : MRep K (upd H p o) M := .mk (prv := m.prv_step (Fr.new h)) (obj := fun a u e => by
  have hp : M p = none := m.free h
  exact ORep.keep m (m.obj a u e) e (Fr.new h) p (fun z => by rw [z, hp] at e; cases e) (by rw [hp]; exact fun _ z => nomatch z) (fun x w hx q => by rw [upd_ne hx]; exact q) fun _ _ => rfl)
/-- a new object that the memory knows -/
theorem Fr.newM {o : HO} {u : MO} (h : H p = none) : Fr H M (upd H p o) (mset M p u) := fun a w e m => by
  have ne := ne_of_none e h
  exact ⟨by rw [upd_ne ne]; exact e, by rw [mset_ne ne]; exact m⟩
theorem MRep.newM {o : HO} {u : MO} (m : MRep K H M) (h : H p = none) (q : ORep K (upd H p o) (mset M p u) p u) : MRep K (upd H p o) (mset M p u) := .mk (prv := m.prv_step (Fr.newM h)) (obj := fun a w e => by
  by_cases z : a = p
  · subst z
    rw [mset_same] at e
    cases e
    exact q
  · rw [mset_ne z] at e
    have hp : M p = none := m.free h
    exact ORep.keep m (m.obj a w e) e (Fr.newM h) p z (by rw [hp]; exact fun _ z => nomatch z) (fun x w hx q => by rw [upd_ne hx]; exact q) fun x hx => mset_ne hx)
/-- an object of the memory is changed -/
theorem Fr.write {l : Addr} {o : HO} {u w : MO} (h : M l = some w) : Fr H M (upd H l o) (mset M l u) := fun a z e m => by
  have ne : a ≠ l := fun q => by rw [q, h] at m; cases m
  exact ⟨by rw [upd_ne ne]; exact e, by rw [mset_ne ne]; exact m⟩
theorem MRep.write {l : Addr} {o : HO} {u w : MO} (m : MRep K H M) (h : M l = some w) (hw : ∀ c, w ≠ .part c) (q : ORep K (upd H l o) (mset M l u) l u) : MRep K (upd H l o) (mset M l u) := .mk (prv := m.prv_step (Fr.write h)) (obj := fun a z e => by
  by_cases c : a = l
  · subst c
    rw [mset_same] at e
    cases e
    exact q
  · rw [mset_ne c] at e
    exact ORep.keep m (m.obj a z e) e (Fr.write h) l c (by rw [h]; exact fun c z => hw c (Option.some.inj z)) (fun x w hx q => by rw [upd_ne hx]; exact q) fun x hx => mset_ne hx)
theorem Fr.sub (s : Sub M' M) : Fr H M H M' := fun x u q w => ⟨q, by
  rcases s x with z | ⟨z, _⟩
  · rw [z]; exact w
  · exact z⟩
theorem MRep.sub (m : MRep K H M) (s : Sub M' M) : MRep K H M' := .mk (prv := m.prv_step (Fr.sub s)) (obj := fun a o e => by
  have ea : M a = some o := by
    rcases s a with q | ⟨q, _⟩
    · rw [← q]; exact e
    · rw [q] at e; cases e
  have f : Fr H M H M' := fun x u q w => ⟨q, by
    rcases s x with z | ⟨z, _⟩
    · rw [z]; exact w
    · exact z⟩
  have q := m.obj a o ea
  cases o with
  | lst ds => obtain ⟨vs, e, r⟩ := q; exact ⟨vs, e, r.mono f⟩
  | dK ks ds => obtain ⟨vs, e, z, r⟩ := q; exact ⟨vs, e, z, r.mono f⟩
  | dT ks ds => obtain ⟨vs, e, z, r⟩ := q; exact ⟨vs, e, z, r.mono f⟩
  | ins C ns ds => obtain ⟨dx, vs, e, z, r⟩ := q; exact ⟨dx, vs, e, z, r.mono f⟩
  | tupP ds => obtain ⟨vs, o, e, z, r⟩ := q; exact ⟨vs, o, e, z, r.mono f⟩
  | deck k b =>
    refine DeckRep.keep (M' := M') q (fun x u _ e => e) (fun x _ e => e) (fun x w => ?_) (fun x o e m p => ⟨e, (f x o e m).2, p⟩)
    rcases s x with z | ⟨z, y⟩
    · rw [z]; exact w
    · rw [w] at y; exact y.elim
  | part _ => exact q)
theorem rep_newT (m : MRep K H M) (h : H p = none) (r : Reps K H M ds vs) : Rep K (upd H p (.tup vs)) M (.tup ds) (.ref p) :=
  ⟨p, vs, rfl, .inl ⟨upd_same, m.free h, m.nprv h⟩, r.mono (Fr.new h)⟩
theorem rep_newL (m : MRep K H M) (h : H p = none) (r : Reps K H M ds vs) : Rep K (upd H p (.lst vs)) M (.lst ds) (.ref p) :=
  ⟨p, vs, rfl, ⟨upd_same, m.free h, m.nprv h⟩, r.mono (Fr.new h)⟩
theorem mrep_newM (m : MRep K H M) (h : H p = none) (r : Reps K H M ds vs) : MRep K (upd H p (.lst vs)) (mset M p (.lst ds)) :=
  m.newM h ⟨vs, upd_same, r.mono (Fr.newM h)⟩
theorem mrep_write {l : Addr} {es : List D} {ws : List V} (m : MRep K H M) (h : M l = some (.lst es)) (r : Reps K H M ds vs) : MRep K (upd H l (.lst vs)) (mset M l (.lst ds)) :=
  m.write h (fun _ z => nomatch z) ⟨vs, upd_same, r.mono (Fr.write h)⟩
/-- lists that are read -/
theorem asL_rep {x : V} {ys : List D} (m : MRep K H M) (r : Rep K H M d x) (e : asL M d = some ys) : ∃ a vs, x = .ref a ∧ SqL K.K H a vs ∧ Reps K H M ys vs := by
  cases d with
  | lst zs =>
    obtain ⟨a, vs, ex, ⟨h, _⟩, q⟩ := r
    cases e
    exact ⟨a, vs, ex, .of h, q⟩
  | rol zs =>
    obtain ⟨a, vs, ex, h, q⟩ := r
    cases e
    exact ⟨a, vs, ex, h.sq, q⟩
  | ref a =>
    cases r
    simp only [asL] at e
    cases em : M a with
    | none => rw [em] at e; cases e
    | some o =>
      rw [em] at e
      cases o with
      | lst zs =>
        cases e
        obtain ⟨vs, h, q⟩ := m.obj a _ em
        exact ⟨a, vs, rfl, .of h, q⟩
      | dK _ _ => cases e
      | dT _ _ => cases e
      | ins _ _ _ => cases e
      | tupP _ => cases e
      | deck _ _ => cases e
      | part _ => cases e
  | _ => cases e
theorem asW_rep {x : V} {ys : List D} (m : MRep K H M) (r : Rep K H M d x) (e : asW M d = some ys) : ∃ a vs, x = .ref a ∧ H a = some (.lst vs) ∧ Reps K H M ys vs := by
  cases d with
  | lst zs =>
    obtain ⟨a, vs, ex, ⟨h, _⟩, q⟩ := r
    cases e
    exact ⟨a, vs, ex, h, q⟩
  | ref a =>
    cases r
    simp only [asW] at e
    cases em : M a with
    | none => rw [em] at e; cases e
    | some o =>
      rw [em] at e
      cases o with
      | lst zs =>
        cases e
        obtain ⟨vs, h, q⟩ := m.obj a _ em
        exact ⟨a, vs, rfl, h, q⟩
      | dK _ _ => cases e
      | dT _ _ => cases e
      | ins _ _ _ => cases e
      | tupP _ => cases e
      | deck _ _ => cases e
      | part _ => cases e
  | _ => cases e
theorem asS_rep {x : V} {ys : List D} (m : MRep K H M) (r : Rep K H M d x) (e : asS M d = some ys) : ∃ a vs, x = .ref a ∧ (SqL K.K H a vs ∨ SqT K.K H a vs) ∧ Reps K H M ys vs := by
  cases d with
  | tup zs =>
    obtain ⟨a, vs, ex, h, q⟩ := r
    cases e
    exact ⟨a, vs, ex, .inr h.sq, q⟩
  | _ =>
    obtain ⟨a, vs, ex, h, q⟩ := asL_rep m r e
    exact ⟨a, vs, ex, .inl h, q⟩
end

/-! ### private places -/
abbrev Fg.hide (K : Fg) (D : Addr) : Fg := ⟨K.K, fun a => K.P a ∨ a = D⟩
section
variable {K : Fg} {H : Hp} {M : Mem} {D0 : Addr}
mutual
/-- other places are private: those that are tracked and private were so -/
theorem Rep.hides {P' : Addr → Prop} (h : ∀ a o, H a = some o → P' a → K.P a) : ∀ {d : D} {v : V}, Rep K H M d v → Rep ⟨K.K, P'⟩ H M d v
  | .non, _, h => h
  | .bl _, _, h => h
  | .int _, _, h => h
  | .str _, _, h => h
  | .ref _, _, h => h
  | .ty _, _, h => h
  | .cls _, _, h => h
  | .tup ds, _, ⟨a, vs, e, q, r⟩ => ⟨a, vs, e, by
      rcases q with ⟨q, m, p⟩ | q
      · exact .inl ⟨q, m, fun z => p (h _ _ q z)⟩
      · exact .inr q, Reps.hides h r⟩
  | .lst ds, _, ⟨a, vs, e, q, r⟩ => ⟨a, vs, e, ⟨q.1, q.2.1, fun z => q.2.2 (h _ _ q.1 z)⟩, Reps.hides h r⟩
  | .rol ds, _, ⟨a, vs, e, q, r⟩ => ⟨a, vs, e, by
      rcases q with ⟨q, m, p⟩ | q
      · refine .inl ⟨q, m, fun z => ?_⟩
        rcases q with q | ⟨o, q⟩
        · exact p (h _ _ q z)
        · exact p (h _ _ q z)
      · exact .inr q, Reps.hides h r⟩
  | .dK ks ds, _, ⟨a, vs, e, q, z, r⟩ => ⟨a, vs, e, ⟨q.1, q.2.1, fun z => q.2.2 (h _ _ q.1 z)⟩, z, Reps.hides h r⟩
  | .dT ks ds, _, ⟨a, vs, e, q, z, r⟩ => ⟨a, vs, e, ⟨q.1, q.2.1, fun z => q.2.2 (h _ _ q.1 z)⟩, z, Reps.hides h r⟩
  | .ins C ns ds, _, ⟨a, dx, vs, e, q, z, r⟩ => ⟨a, dx, vs, e, ⟨q.1, q.2.1, fun z => q.2.2 (h _ _ q.1 z)⟩, z, Reps.hides h r⟩
theorem Reps.hides {P' : Addr → Prop} (h : ∀ a o, H a = some o → P' a → K.P a) : ∀ {ds : List D} {vs : List V}, Reps K H M ds vs → Reps ⟨K.K, P'⟩ H M ds vs
  | [], _, h => h
  | d :: ds, _, ⟨v, r, e, q, t⟩ => ⟨v, r, e, Rep.hides h q, Reps.hides h t⟩
end
theorem hide_new (h : H D0 = none) : ∀ a o, H a = some o → (K.hide D0).P a → K.P a := fun a o e z => z.elim id fun z => by
  rw [z, h] at e; cases e
theorem Rep.hide {d : D} {v : V} (h : H D0 = none) (r : Rep K H M d v) : Rep (K.hide D0) H M d v := r.hides (hide_new h)
theorem Reps.hide {ds : List D} {vs : List V} (h : H D0 = none) (r : Reps K H M ds vs) : Reps (K.hide D0) H M ds vs := r.hides (hide_new h)
theorem Rep.bare {d : D} {v : V} (r : Rep (K.hide D0) H M d v) : Rep K H M d v := Rep.hides (K := K.hide D0) (P' := K.P) (fun _ _ _ z => Or.inl z) r
theorem Reps.bare {ds : List D} {vs : List V} (r : Reps (K.hide D0) H M ds vs) : Reps K H M ds vs := Reps.hides (K := K.hide D0) (P' := K.P) (fun _ _ _ z => Or.inl z) r
mutual
/-- a private place may change -/
theorem Rep.priv {o : HO} (h : K.P D0) : ∀ {d : D} {v : V}, Rep K H M d v → Rep K (upd H D0 o) M d v
  | .non, _, h => h
  | .bl _, _, h => h
  | .int _, _, h => h
  | .str _, _, h => h
  | .ref _, _, h => h
  | .ty _, _, h => h
  | .cls _, _, h => h
  | .tup ds, _, ⟨a, vs, e, q, r⟩ => ⟨a, vs, e, by
      rcases q with ⟨q, m, p⟩ | q
      · have ne : a ≠ D0 := fun z => p (z ▸ h)
        exact .inl ⟨by rw [upd_ne ne]; exact q, m, p⟩
      · exact .inr q, Reps.priv h r⟩
  | .lst ds, _, ⟨a, vs, e, q, r⟩ => ⟨a, vs, e, ⟨by rw [upd_ne (show a ≠ D0 from fun z => q.2.2 (z ▸ h))]; exact q.1, q.2⟩, Reps.priv h r⟩
  | .rol ds, _, ⟨a, vs, e, q, r⟩ => ⟨a, vs, e, by
      rcases q with ⟨q, m, p⟩ | q
      · have ne : a ≠ D0 := fun z => p (z ▸ h)
        refine .inl ⟨?_, m, p⟩
        rcases q with q | ⟨u, q⟩
        · exact .inl (by rw [upd_ne ne]; exact q)
        · exact .inr ⟨u, by rw [upd_ne ne]; exact q⟩
      · exact .inr q, Reps.priv h r⟩
  | .dK ks ds, _, ⟨a, vs, e, q, z, r⟩ => ⟨a, vs, e, ⟨by rw [upd_ne (show a ≠ D0 from fun z => q.2.2 (z ▸ h))]; exact q.1, q.2⟩, z, Reps.priv h r⟩
  | .dT ks ds, _, ⟨a, vs, e, q, z, r⟩ => ⟨a, vs, e, ⟨by rw [upd_ne (show a ≠ D0 from fun z => q.2.2 (z ▸ h))]; exact q.1, q.2⟩, z, Reps.priv h r⟩
  | .ins C ns ds, _, ⟨a, dx, vs, e, q, z, r⟩ => ⟨a, dx, vs, e, ⟨by rw [upd_ne (show a ≠ D0 from fun z => q.2.2 (z ▸ h))]; exact q.1, q.2⟩, z, Reps.priv h r⟩
theorem Reps.priv {o : HO} (h : K.P D0) : ∀ {ds : List D} {vs : List V}, Reps K H M ds vs → Reps K (upd H D0 o) M ds vs
  | [], _, h => h
  | d :: ds, _, ⟨v, r, e, q, t⟩ => ⟨v, r, e, Rep.priv h q, Reps.priv h t⟩
end
theorem MRep.hide {o : HO} (m : MRep K H M) (h : H D0 = none) : MRep (K.hide D0) (upd H D0 o) M := by
  have m1 := m.new (o := o) h
  have mD := m.free h
  refine ⟨fun a u e => ?_, fun a q => ?_⟩
  · have q := m.obj a u e
    have ne : a ≠ D0 := fun z => by rw [z, mD] at e; cases e
    have hR : ∀ {ds : List D} {vs : List V}, Reps K H M ds vs → Reps (K.hide D0) (upd H D0 o) M ds vs := fun r => Reps.priv (K := K.hide D0) (D0 := D0) (Or.inr rfl) (r.hide h)
    cases u with
    | lst ds => obtain ⟨vs, e, r⟩ := q; exact ⟨vs, by rw [upd_ne ne]; exact e, hR r⟩
    | dK ks ds => obtain ⟨vs, e, z, r⟩ := q; exact ⟨vs, by rw [upd_ne ne]; exact e, z, hR r⟩
    | dT ks ds => obtain ⟨vs, e, z, r⟩ := q; exact ⟨vs, by rw [upd_ne ne]; exact e, z, hR r⟩
    | ins C ns ds => obtain ⟨dx, vs, e, z, r⟩ := q; exact ⟨dx, vs, by rw [upd_ne ne]; exact e, z, hR r⟩
    | tupP ds => obtain ⟨vs, o, e, z, r⟩ := q; exact ⟨vs, o, by rw [upd_ne ne]; exact e, z, hR r⟩
    | deck k b =>
      have h0 : ∀ x, (M x = some (.part a) ∨ x = a) → ∃ w, H x = some w := fun x z => by
        rcases z with z | z
        · exact m.there z
        · rw [z]; exact m.there e
      have nx : ∀ x, (M x = some (.part a) ∨ x = a) → x ≠ D0 := fun x z y => by
        obtain ⟨w, hw⟩ := h0 x z
        rw [y, h] at hw; cases hw
      exact DeckRep.keep q (fun x u z e => by rw [upd_ne (nx x z)]; exact e) (fun x z e => by rw [upd_ne (nx x z)]; exact e) (fun _ z => z) (fun x w ex mx px => by
        have ne' : x ≠ D0 := fun z => by rw [z, h] at ex; cases ex
        exact ⟨by rw [upd_ne ne']; exact ex, mx, fun z => z.elim px ne'⟩)
    | part _ => exact m1.obj a _ e
  · rcases q with q | q
    · exact m1.prv a q
    · subst q; exact ⟨⟨o, upd_same⟩, mD⟩
theorem MRep.bare (m : MRep (K.hide D0) H M) : MRep K H M := by
  refine ⟨fun a u e => ?_, fun a q => m.prv a (.inl q)⟩
  have q := m.obj a u e
  cases u with
  | lst ds => obtain ⟨vs, e, r⟩ := q; exact ⟨vs, e, r.bare⟩
  | dK ks ds => obtain ⟨vs, e, z, r⟩ := q; exact ⟨vs, e, z, r.bare⟩
  | dT ks ds => obtain ⟨vs, e, z, r⟩ := q; exact ⟨vs, e, z, r.bare⟩
  | ins C ns ds => obtain ⟨dx, vs, e, z, r⟩ := q; exact ⟨dx, vs, e, z, r.bare⟩
  | tupP ds => obtain ⟨vs, o, e, z, r⟩ := q; exact ⟨vs, o, e, z, r.bare⟩
  | deck k b => exact DeckRep.keep (K := K.hide D0) (K' := K) q (fun x u _ e => e) (fun x _ e => e) (fun _ z => z) (fun x w ex mx px => ⟨ex, mx, fun z => px (.inl z)⟩)
  | part _ => exact q
theorem MRep.priv {o : HO} (m : MRep K H M) (h : K.P D0) : MRep K (upd H D0 o) M := by
  obtain ⟨⟨w, hw⟩, mD⟩ := m.prv D0 h
  refine ⟨fun a u e => ?_, fun a q => ?_⟩
  · have q := m.obj a u e
    have ne : ∀ x, M x ≠ none → x ≠ D0 := fun x hx z => by rw [z] at hx; exact hx mD
    have na : a ≠ D0 := ne a (by rw [e]; exact fun z => nomatch z)
    cases u with
    | lst ds => obtain ⟨vs, e, r⟩ := q; exact ⟨vs, by rw [upd_ne na]; exact e, r.priv h⟩
    | dK ks ds => obtain ⟨vs, e, z, r⟩ := q; exact ⟨vs, by rw [upd_ne na]; exact e, z, r.priv h⟩
    | dT ks ds => obtain ⟨vs, e, z, r⟩ := q; exact ⟨vs, by rw [upd_ne na]; exact e, z, r.priv h⟩
    | ins C ns ds => obtain ⟨dx, vs, e, z, r⟩ := q; exact ⟨dx, vs, by rw [upd_ne na]; exact e, z, r.priv h⟩
    | tupP ds => obtain ⟨vs, o, e, z, r⟩ := q; exact ⟨vs, o, by rw [upd_ne na]; exact e, z, r.priv h⟩
    | deck k b =>
      have nx : ∀ x, (M x = some (.part a) ∨ x = a) → x ≠ D0 := fun x z => by
        rcases z with z | z
        · exact ne x (by rw [z]; exact fun z => nomatch z)
        · rw [z]; exact na
      exact DeckRep.keep q (fun x u z e => by rw [upd_ne (nx x z)]; exact e) (fun x z e => by rw [upd_ne (nx x z)]; exact e) (fun _ z => z) (fun x w ex mx px => ⟨by rw [upd_ne (show x ≠ D0 from fun z => px (z ▸ h))]; exact ex, mx, px⟩)
    | part _ => obtain ⟨u, e⟩ := q; exact ⟨u, by rw [upd_ne na]; exact e⟩
  · obtain ⟨⟨u, hu⟩, ma⟩ := m.prv a q
    by_cases z : a = D0
    · subst z; exact ⟨⟨o, upd_same⟩, ma⟩
    · exact ⟨⟨u, by rw [upd_ne z]; exact hu⟩, ma⟩
end

/-! ### states, readings -/
structure SRep (K : Fg) (σ : St) (H : Hp) (ρ : Env) (M : Mem) : Prop where
  len : σ.length = ρ.length
  env : ∀ (i : Nat) (d : D), ρ[i]? = some (some d) → ∃ v, σ[i]? = some (some v) ∧ Rep K H M d v
  mem : MRep K H M
theorem SRep.step {K : Fg} {σ : St} {H H' : Hp} {ρ : Env} {M M' : Mem} (s : SRep K σ H ρ M) (f : Fr H M H' M') (m : MRep K H' M') : SRep K σ H' ρ M' :=
  ⟨s.len, fun i d e => let ⟨v, q, r⟩ := s.env i d e; ⟨v, q, r.mono f⟩, m⟩
theorem SRep.set {K : Fg} {σ : St} {H : Hp} {ρ : Env} {M : Mem} {i : Nat} {d : D} {v : V} (s : SRep K σ H ρ M) (r : Rep K H M d v) : SRep K (σ.set i (some v)) H (ρ.set i (some d)) M := by
  refine ⟨by rw [List.length_set, List.length_set]; exact s.len, fun j e h => ?_, s.mem⟩
  by_cases c : i = j
  · subst c
    by_cases l : i < ρ.length
    · rw [List.getElem?_set_self l] at h
      cases h
      exact ⟨v, List.getElem?_set_self (by rw [s.len]; exact l), r⟩
    · rw [List.getElem?_eq_none (by rw [List.length_set]; omega)] at h
      cases h
  · rw [List.getElem?_set_ne c] at h
    obtain ⟨u, q, w⟩ := s.env j e h
    exact ⟨u, by rw [List.getElem?_set_ne c]; exact q, w⟩
theorem SRep.clear {K : Fg} {σ : St} {H : Hp} {ρ : Env} {M : Mem} (i : Nat) (s : SRep K σ H ρ M) : SRep K (σ.set i none) H (ρ.set i none) M := by
  refine ⟨by rw [List.length_set, List.length_set]; exact s.len, fun j e h => ?_, s.mem⟩
  by_cases c : i = j
  · subst c
    by_cases l : i < ρ.length
    · rw [List.getElem?_set_self l] at h
      cases h
    · rw [List.getElem?_eq_none (by rw [List.length_set]; omega)] at h
      cases h
  · rw [List.getElem?_set_ne c] at h
    obtain ⟨u, q, w⟩ := s.env j e h
    exact ⟨u, by rw [List.getElem?_set_ne c]; exact q, w⟩
theorem SRep.wipe {K : Fg} {σ : St} {H : Hp} {ρ : Env} {M : Mem} (s : SRep K σ H ρ M) : ∀ vs : List Nat, SRep K (L2.wipe σ vs) H (DL.wipe ρ vs) M
  | [] => s
  | v :: vs => (SRep.wipe s vs).clear v

theorem SRep.hides {K : Fg} {σ : St} {H : Hp} {ρ : Env} {M : Mem} {P' : Addr → Prop} (s : SRep K σ H ρ M) (h : ∀ a o, H a = some o → P' a → K.P a) (m : MRep ⟨K.K, P'⟩ H M) : SRep ⟨K.K, P'⟩ σ H ρ M :=
  ⟨s.len, fun i d e => let ⟨v, q, r⟩ := s.env i d e; ⟨v, q, r.hides h⟩, m⟩
def Lift (K : Fg) (H : Hp) (M : Mem) (Q : DK) (Q' : VK) : Prop := ∀ v H' d M', Fr H M H' M' → Rep K H' M' d v → MRep K H' M' → Q d M' → Q' v H'
def LiftB (K : Fg) (H : Hp) (M : Mem) (Q : BK) (Q' : Bool → Hp → Prop) : Prop := ∀ b H' M', Fr H M H' M' → MRep K H' M' → Q b M' → Q' b H'
def LiftA (K : Fg) (H : Hp) (M : Mem) (n : Nat) (Q : List D → Mem → Prop) (Q' : List V → Hp → Prop) : Prop := ∀ vs H' ds M', Fr H M H' M' → Reps K H' M' ds vs → ds.length = n → MRep K H' M' → Q ds M' → Q' vs H'
def LiftS (K : Fg) (H : Hp) (M : Mem) (Q : Env → Mem → Prop) (Q' : St → Hp → Prop) : Prop := ∀ σ' H' ρ' M', Fr H M H' M' → SRep K σ' H' ρ' M' → Q ρ' M' → Q' σ' H'
theorem Lift.later {K : Fg} {H H' : Hp} {M M' : Mem} {Q : DK} {Q' : VK} (l : Lift K H M Q Q') (f : Fr H M H' M') : Lift K H' M' Q Q' := fun v H2 d M2 f2 => l v H2 d M2 (f.trans f2)
theorem LiftB.later {K : Fg} {H H' : Hp} {M M' : Mem} {Q : BK} {Q' : Bool → Hp → Prop} (l : LiftB K H M Q Q') (f : Fr H M H' M') : LiftB K H' M' Q Q' := fun v H2 M2 f2 => l v H2 M2 (f.trans f2)
theorem LiftS.later {K : Fg} {H H' : Hp} {M M' : Mem} {Q : Env → Mem → Prop} {Q' : St → Hp → Prop} (l : LiftS K H M Q Q') (f : Fr H M H' M') : LiftS K H' M' Q Q' := fun v H2 d M2 f2 => l v H2 d M2 (f.trans f2)
def Ref (K : Fg) (te : TE) (t : DE) : Prop := ∀ σ H ρ M Q Q', SRep K σ H ρ M → t ρ M Q → Lift K H M Q Q' → te σ H Q'
def RefT (K : Fg) (te : TT) (t : DT) : Prop := ∀ σ H ρ M Q Q', SRep K σ H ρ M → t ρ M Q → LiftB K H M Q Q' → te σ H Q'
def RefA (K : Fg) (n : Nat) (te : TA) (t : DA) : Prop := ∀ σ H ρ M Q Q', SRep K σ H ρ M → t ρ M Q → LiftA K H M n Q Q' → te σ H Q'
structure LiftE (K : Fg) (H : Hp) (M : Mem) (E : DEnds) (E' : Ends) : Prop where
  nx : LiftS K H M E.nx E'.nx
  rt : Lift K H M E.rt E'.rt
  bk : LiftS K H M E.bk E'.bk
  ct : LiftS K H M E.ct E'.ct
theorem LiftE.later {K : Fg} {H H' : Hp} {M M' : Mem} {E : DEnds} {E' : Ends} (l : LiftE K H M E E') (f : Fr H M H' M') : LiftE K H' M' E E' := ⟨l.nx.later f, l.rt.later f, l.bk.later f, l.ct.later f⟩
def RefS (K : Fg) (ts : TS) (t : DS) : Prop := ∀ σ H ρ M E E', SRep K σ H ρ M → t E ρ M → LiftE K H M E E' → ts E' σ H
def RefG (K : Fg) (tg : TG) (g : DG) : Prop := ∀ v d σ H ρ M Q Q', SRep K σ H ρ M → Rep K H M d v → g d ρ M Q → LiftS K H M Q Q' → tg v σ H Q'
def RefGs (K : Fg) (tg : TGs) (g : DGs) : Prop := ∀ vs ds σ H ρ M Q Q', SRep K σ H ρ M → Reps K H M ds vs → g ds ρ M Q → LiftS K H M Q Q' → tg vs σ H Q'
def RefR (K : Fg) (r : L2.R2) (rd : DL.R2) : Prop := ∀ x y H M dx dy Q Q', Rep K H M dx x → Rep K H M dy y → MRep K H M → rd dx dy M Q → Lift K H M Q Q' → r x y H Q'
def RefR1 (K : Fg) (r : List V → Hp → VK → Prop) (rd : R1) : Prop := ∀ x H M dx Q Q', Rep K H M dx x → MRep K H M → rd dx M Q → Lift K H M Q Q' → r [x] H Q'
structure RE (X : Cx) (e : Expr) (te : TE) (t : DE) : Prop where
  pe : PE X e te
  rf : ∀ P, Ref ⟨X.K, P⟩ te t
structure RT (X : Cx) (e : Expr) (te : TT) (t : DT) : Prop where
  pt : PT X e te
  rf : ∀ P, RefT ⟨X.K, P⟩ te t
structure RW (X : Cx) (e : Expr) (te : TT) (t : DT) : Prop where
  pw : PW X e te
  rf : ∀ P, RefT ⟨X.K, P⟩ te t
structure RA (X : Cx) (es : List Expr) (te : TA) (t : DA) : Prop where
  pa : PA X es te
  rf : ∀ P, RefA ⟨X.K, P⟩ es.length te t
structure RS (X : Cx) (st : Stmt) (ts : TS) (t : DS) : Prop where
  ps : PS X st ts
  rf : ∀ P, RefS ⟨X.K, P⟩ ts t
structure RSs (X : Cx) (st : List Stmt) (ts : TS) (t : DS) : Prop where
  ps : PSs X st ts
  rf : ∀ P, RefS ⟨X.K, P⟩ ts t
structure RG (X : Cx) (e : Expr) (tg : TG) (g : DG) : Prop where
  pg : PG X e tg
  rf : ∀ P, RefG ⟨X.K, P⟩ tg g
structure RGs (X : Cx) (es : List Expr) (tg : TGs) (g : DGs) : Prop where
  pg : PGs X es tg
  rf : ∀ P, RefGs ⟨X.K, P⟩ tg g
/-- what is walked: at every later heap the items come as they were told -/
structure Gives (K : Fg) (J : It) (ds : List D) (H : Hp) (M : Mem) : Prop where
  go : ∀ i H' M', Fr H M H' M' → i < ds.length → J.go i H'
  stop : ∀ H' M', Fr H M H' M' → J.stop ds.length H'
  yld : ∀ (P' : Addr → Prop), (∀ a o, H a = some o → P' a → K.P a) → ∀ i H' M' x H2, Fr H M H' M' → MRep ⟨K.K, P'⟩ H' M' → J.yld i H' x H2 → ∀ d, ds[i]? = some d → Fr H' M' H2 M' ∧ MRep ⟨K.K, P'⟩ H2 M' ∧ Rep ⟨K.K, P'⟩ H2 M' d x
def RefI (K : Fg) (wi : TI) (t : DI) : Prop := ∀ σ H ρ M (R : List D → Mem → Prop) (R' : It → Hp → Prop), SRep K σ H ρ M → t ρ M R → (∀ J H' ds M', Fr H M H' M' → MRep K H' M' → Gives K J ds H' M' → R ds M' → R' J H') → wi σ H R'
structure RI (X : Cx) (tg e : Expr) (wi : TI) (t : DI) : Prop where
  pi : PI X tg e wi
  rf : ∀ P, RefI ⟨X.K, P⟩ wi t
end DL
/-! DLR: the rules. -/
namespace DL
open PySem PySem.Spec PyProof.Rows L2

section
variable {K : Fg}
/-! ### readings of expressions -/
theorem ref_var (i : Nat) : Ref K (tVar i) (dV i) := fun σ H ρ M Q Q' s h l => by
  unfold dV at h
  split at h
  · rename_i d e
    obtain ⟨v, q, r⟩ := s.env i d e
    exact ⟨v, q, l v H d M (Fr.refl H M) r s.mem h⟩
  · exact h.elim
theorem ref_c {d : D} {v : V} (hc : ∀ H M, Rep K H M d v) : Ref K (tC v) (dC d) := fun σ H ρ M Q Q' s h l => l v H d M (Fr.refl H M) (hc H M) s.mem h
variable {ta tb tc te : TE} {t u w : DE} {tA : TA} {a : DA} {n : Nat} {tt tu : TT} {b c : DT}
theorem refA_nil : RefA K 0 tNil dA0 := fun σ H ρ M Q Q' s h l => l [] H [] M (Fr.refl H M) rfl rfl s.mem h
theorem refA_cons (h1 : Ref K ta t) (h2 : RefA K n tA a) : RefA K (n + 1) (tCons ta tA) (dA t a) := fun σ H ρ M Q Q' s h l =>
  h1 σ H ρ M _ _ s h fun v H1 d M1 f1 r1 m1 q1 => h2 σ H1 ρ M1 _ _ (s.step f1 m1) q1 fun vs H2 ds M2 f2 r2 n2 m2 q2 =>
    l (v :: vs) H2 (d :: ds) M2 (f1.trans f2) ⟨v, vs, rfl, r1.mono f2, r2⟩ (by rw [List.length_cons, n2]) m2 q2
theorem ref_tup (hn : n ≤ SZ) (h : RefA K n tA a) : Ref K (tTup tA) (dTup a) := fun σ H ρ M Q Q' s q l =>
  h σ H ρ M _ _ s q fun vs H1 ds M1 f1 r1 n1 m1 q1 => ⟨szLe (by rw [← r1.length, n1]; exact hn), fun p hp =>
    l _ _ _ _ (f1.trans (Fr.new hp)) (rep_newT m1 hp r1) (m1.new hp) q1⟩
theorem ref_lst (hn : n ≤ SZ) (h : RefA K n tA a) : Ref K (tLst tA) (dLst a) := fun σ H ρ M Q Q' s q l =>
  h σ H ρ M _ _ s q fun vs H1 ds M1 f1 r1 n1 m1 q1 => ⟨szLe (by rw [← r1.length, n1]; exact hn), fun p hp =>
    l _ _ _ _ (f1.trans (Fr.new hp)) (rep_newL m1 hp r1) (m1.new hp) q1⟩
theorem ref_new (hn : n ≤ SZ) (h : RefA K n tA a) : Ref K (tLst tA) (dNew a) := fun σ H ρ M Q Q' s q l =>
  h σ H ρ M _ _ s q fun vs H1 ds M1 f1 r1 n1 m1 q1 => ⟨szLe (by rw [← r1.length, n1]; exact hn), fun p hp =>
    l _ _ (.ref p) _ (f1.trans (Fr.newM hp)) rfl (mrep_newM m1 hp r1) (q1 p (m1.free hp))⟩
theorem ref_op {r : L2.R2} {rd : DL.R2} (hr : RefR K r rd) (h1 : Ref K ta t) (h2 : Ref K tb u) : Ref K (tOp r ta tb) (dOp rd t u) := fun σ H ρ M Q Q' s q l =>
  h1 σ H ρ M _ _ s q fun v H1 d M1 f1 r1 m1 q1 => h2 σ H1 ρ M1 _ _ (s.step f1 m1) q1 fun v2 H2 d2 M2 f2 r2 m2 q2 =>
    hr v v2 H2 M2 d d2 _ _ (r1.mono f2) r2 m2 q2 (l.later (f1.trans f2))
theorem ref_cb1 {r : List V → Hp → VK → Prop} {rd : R1} (hr : RefR1 K r rd) (h1 : Ref K ta t) : Ref K (tCB r (tCons ta tNil)) (dUn rd t) := fun σ H ρ M Q Q' s q l =>
  h1 σ H ρ M _ _ s q fun v H1 d M1 f1 r1 m1 q1 => hr v H1 M1 d _ _ r1 m1 q1 (l.later f1)
theorem ref_un {r : V → Hp → VK → Prop} {rd : R1} (hr : RefR1 K (fun xs H Q => ∃ x, xs = [x] ∧ r x H Q) rd) (h1 : Ref K ta t) : Ref K (tUn r ta) (dUn rd t) := fun σ H ρ M Q Q' s q l =>
  h1 σ H ρ M _ _ s q fun v H1 d M1 f1 r1 m1 q1 => by
    obtain ⟨x, e, z⟩ := hr v H1 M1 d _ _ r1 m1 q1 (l.later f1)
    cases e
    exact z
/-! tests -/
theorem refT_val (h : Ref K te t) : RefT K (tB te) (dTest t) := fun σ H ρ M Q Q' s q l =>
  h σ H ρ M _ _ s q fun v H1 d M1 f1 r1 m1 q1 => by
    cases d with
    | bl k => cases r1; exact ⟨k, rfl, l k H1 M1 f1 m1 q1⟩
    | _ => exact q1.elim
theorem refT_test (h : Ref K te t) : RefT K (tTest te) (dTest t) := fun σ H ρ M Q Q' s q l =>
  h σ H ρ M _ _ s q fun v H1 d M1 f1 r1 m1 q1 => by
    cases d with
    | bl k => cases r1; exact ⟨k, rfl, l k H1 M1 f1 m1 q1⟩
    | _ => exact q1.elim
theorem refT_and (h1 : RefT K tt b) (h2 : RefT K tu c) : RefT K (tAnd tt tu) (dAnd b c) := fun σ H ρ M Q Q' s q l =>
  h1 σ H ρ M _ _ s q fun k H1 M1 f1 m1 q1 => by
    cases k with
    | true =>
      rw [if_pos rfl] at q1 ⊢
      exact h2 σ H1 ρ M1 _ _ (s.step f1 m1) q1 (l.later f1)
    | false =>
      rw [if_neg Bool.false_ne_true] at q1 ⊢
      exact l false H1 M1 f1 m1 q1
theorem refT_or (h1 : RefT K tt b) (h2 : RefT K tu c) : RefT K (tOr tt tu) (dOr b c) := fun σ H ρ M Q Q' s q l =>
  h1 σ H ρ M _ _ s q fun k H1 M1 f1 m1 q1 => by
    cases k with
    | true =>
      rw [if_pos rfl] at q1 ⊢
      exact l true H1 M1 f1 m1 q1
    | false =>
      rw [if_neg Bool.false_ne_true] at q1 ⊢
      exact h2 σ H1 ρ M1 _ _ (s.step f1 m1) q1 (l.later f1)
theorem refT_not (h1 : RefT K tt b) : RefT K (tNot tt) (dNot b) := fun σ H ρ M Q Q' s q l =>
  h1 σ H ρ M _ _ s q fun k H1 M1 f1 m1 q1 => l (!k) H1 M1 f1 m1 q1
theorem refT_yes : RefT K tYes dYes := fun σ H ρ M Q Q' s q l => l true H M (Fr.refl H M) s.mem q
theorem ref_andV (h1 : Ref K ta t) (h2 : Ref K tb u) : Ref K (tAndV ta tb) (dAndV t u) := fun σ H ρ M Q Q' s q l =>
  h1 σ H ρ M _ _ s q fun v H1 d M1 f1 r1 m1 q1 => by
    cases d with
    | bl k =>
      cases r1
      refine ⟨k, rfl, ?_⟩
      cases k with
      | true =>
        simp only [if_true] at q1 ⊢
        exact h2 σ H1 ρ M1 _ _ (s.step f1 m1) q1 (l.later f1)
      | false =>
        simp only [Bool.false_eq_true, if_false] at q1 ⊢
        exact l _ H1 (.bl false) M1 f1 rfl m1 q1
    | _ => exact q1.elim
theorem ref_orV (h1 : Ref K ta t) (h2 : Ref K tb u) : Ref K (tOrV ta tb) (dOrV t u) := fun σ H ρ M Q Q' s q l =>
  h1 σ H ρ M _ _ s q fun v H1 d M1 f1 r1 m1 q1 => by
    cases d with
    | bl k =>
      cases r1
      refine ⟨k, rfl, ?_⟩
      cases k with
      | true =>
        simp only [if_true] at q1 ⊢
        exact l _ H1 (.bl true) M1 f1 rfl m1 q1
      | false =>
        simp only [Bool.false_eq_true, if_false] at q1 ⊢
        exact h2 σ H1 ρ M1 _ _ (s.step f1 m1) q1 (l.later f1)
    | _ => exact q1.elim
theorem ref_notV (h1 : Ref K ta t) : Ref K (tNotV ta) (dNotV t) := fun σ H ρ M Q Q' s q l =>
  h1 σ H ρ M _ _ s q fun v H1 d M1 f1 r1 m1 q1 => by
    cases d with
    | bl k => cases r1; exact ⟨k, rfl, l _ H1 (.bl (!k)) M1 f1 rfl m1 q1⟩
    | _ => exact q1.elim
theorem ref_ifE (h : RefT K tt b) (h1 : Ref K ta t) (h2 : Ref K tb u) : Ref K (tIf tt ta tb) (dIfE b t u) := fun σ H ρ M Q Q' s q l =>
  h σ H ρ M _ _ s q fun k H1 M1 f1 m1 q1 => by
    cases k with
    | true =>
      rw [if_pos rfl] at q1 ⊢
      exact h1 σ H1 ρ M1 _ _ (s.step f1 m1) q1 (l.later f1)
    | false =>
      rw [if_neg Bool.false_ne_true] at q1 ⊢
      exact h2 σ H1 ρ M1 _ _ (s.step f1 m1) q1 (l.later f1)
theorem ref_chain {r r' : L2.R2} {rd rd' : DL.R2} (hr : RefR K r rd) (hr' : RefR K r' rd') (h1 : Ref K ta t) (h2 : Ref K tb u) (h3 : Ref K tc w) : Ref K (tChain r r' ta tb tc) (dChain rd rd' t u w) := fun σ H ρ M Q Q' s q l =>
  h1 σ H ρ M _ _ s q fun v H1 d M1 f1 r1 m1 q1 => h2 σ H1 ρ M1 _ _ (s.step f1 m1) q1 fun v2 H2 d2 M2 f2 r2 m2 q2 =>
    hr v v2 H2 M2 d d2 _ _ (r1.mono f2) r2 m2 q2 fun z H3 dz M3 f3 r3 m3 q3 => by
      cases dz with
      | bl k =>
        cases r3
        refine ⟨k, rfl, ?_⟩
        cases k with
        | true =>
          simp only [if_true] at q3 ⊢
          exact h3 σ H3 ρ M3 _ _ (s.step ((f1.trans f2).trans f3) m3) q3 fun v4 H4 d4 M4 f4 r4 m4 q4 =>
            hr' v2 v4 H4 M4 d2 d4 _ _ (r2.mono (f3.trans f4)) r4 m4 q4 (l.later (((f1.trans f2).trans f3).trans f4))
        | false =>
          simp only [Bool.false_eq_true, if_false] at q3 ⊢
          exact l _ H3 (.bl false) M3 ((f1.trans f2).trans f3) rfl m3 q3
      | _ => exact q3.elim
end

/-! ### operators -/
section
variable {K : Fg}
theorem fin {H : Hp} {M : Mem} {Q : DK} {Q' : VK} {d : D} {v : V} (l : Lift K H M Q Q') (m : MRep K H M) (r : Rep K H M d v) (q : Q d M) : Q' v H := l v H d M (Fr.refl H M) r m q
theorem finI {H : Hp} {M : Mem} {Q : DK} {Q' : VK} {i : Int} (l : Lift K H M Q Q') (m : MRep K H M) (q : Q (.int i) M) : Q' (.int i) H := l _ H (.int i) M (Fr.refl H M) rfl m q
theorem finB {H : Hp} {M : Mem} {Q : DK} {Q' : VK} {i : Bool} (l : Lift K H M Q Q') (m : MRep K H M) (q : Q (.bl i) M) : Q' (.bl i) H := l _ H (.bl i) M (Fr.refl H M) rfl m q
theorem finS {H : Hp} {M : Mem} {Q : DK} {Q' : VK} {i : Str} (l : Lift K H M Q Q') (m : MRep K H M) (q : Q (.str i) M) : Q' (.str i) H := l _ H (.str i) M (Fr.refl H M) rfl m q
def rAddAll (K : PySem.W.Frag) : L2.R2 := fun x y H Q => (∃ i j, x = .int i ∧ y = .int j ∧ Q (.int (i + j)) H) ∨ (∃ i j, x = .str i ∧ y = .str j ∧ i.length + j.length ≤ sizeLine ∧ Q (.str (i ++ j)) H) ∨ rCatA K x y H Q ∨ rCat x y H Q
theorem op_addAll {X : Cx} : OpR X (binaryOp .Add) (rAddAll X.K) := op_add.or (op_add_str.or (op_catA.or op_cat))
theorem rf_addL {x y : V} {H : Hp} {M : Mem} {dx dy : D} {Q : DK} {Q' : VK} (rx : Rep K H M dx x) (ry : Rep K H M dy y) (m : MRep K H M) (q : match asW M dx, asW M dy with
    | some a, some b => a.length + b.length ≤ SZ ∧ Q (.lst (a ++ b)) M
    | _, _ => False) (l : Lift K H M Q Q') : rAddAll K.K x y H Q' := by
  split at q
  · rename_i a b e1 e2
    obtain ⟨a1, v1, ex, h1, r1⟩ := asW_rep m rx e1
    obtain ⟨a2, v2, ey, h2, r2⟩ := asW_rep m ry e2
    refine .inr (.inr (.inr ⟨a1, a2, v1, v2, ex, ey, h1, h2, szLe (by rw [← r1.length, ← r2.length]; exact q.1), fun p hp => ?_⟩))
    exact l _ _ _ _ (Fr.new hp) (rep_newL m hp (r1.append r2)) (m.new hp) q.2
  · exact q.elim
theorem rf_add : RefR K (rAddAll K.K) oAdd := fun x y H M dx dy Q Q' rx ry m q l => by
  unfold oAdd at q
  split at q
  · cases rx; cases ry
    exact .inl ⟨_, _, rfl, rfl, finI l m q⟩
  · cases rx; cases ry
    exact .inr (.inl ⟨_, _, rfl, rfl, szLe q.1, finS l m q.2⟩)
  · rename_i a b
    obtain ⟨a1, v1, rfl, h1, r1⟩ := id rx
    obtain ⟨a2, v2, rfl, h2, r2⟩ := id ry
    refine .inr (.inr (.inl ⟨a1, a2, v1, v2, rfl, rfl, h1.sq, h2.sq, szLe (by rw [← r1.length, ← r2.length]; exact q.1), fun e => ?_, fun _ e => ?_, fun _ _ p hp => ?_⟩))
    · subst e
      have e : a = [] := List.eq_nil_of_length_eq_zero r1.length
      subst e
      exact fin l m ry q.2
    · subst e
      have e : b = [] := List.eq_nil_of_length_eq_zero r2.length
      subst e
      rw [List.append_nil] at q
      exact fin l m rx q.2
    · exact l _ _ _ _ (Fr.new hp) (rep_newT m hp (r1.append r2)) (m.new hp) q.2
  · exact rf_addL rx ry m q l
theorem rf_sub : RefR K (rI0 fun i j => .int (i - j)) oSub := fun x y H M dx dy Q Q' rx ry m q l => by
  unfold oSub at q
  split at q
  · cases rx; cases ry
    exact ⟨_, _, rfl, rfl, finI l m q⟩
  · exact q.elim
def rRepS : L2.R2 := fun x y H Q => ∃ i k, x = .str i ∧ y = .int k ∧ 0 ≤ k ∧ k ≤ 1000 ∧ 1 ≤ i.length ∧ i.length ≤ 100 ∧ Q (.str (repS k.toNat i)) H
theorem rep_len (x : Str) : ∀ n : Nat, (repS n x).length = n * x.length := by
  have f : ∀ (n : Nat) (a : Array Nat), ((List.replicate n x.cps).foldl (· ++ ·) a).size = a.size + n * x.cps.size := by
    intro n
    induction n with
    | zero => intro a; simp
    | succ n ih => intro a; rw [List.replicate_succ, List.foldl_cons, ih, Array.size_append, Nat.succ_mul]; omega
  intro n
  show ((List.replicate n x.cps).foldl (· ++ ·) #[]).size = n * x.cps.size
  rw [f n]
  simp
theorem op_repS {X : Cx} : OpR X (binaryOp .Mult) rRepS := by
  intro pins s σ H x y v u Q I rx ry h
  obtain ⟨i, k, rfl, rfl, h1, h2, h3, h4, q⟩ := h
  obtain ⟨t, rfl⟩ := rx
  obtain ⟨t', rfl⟩ := ry
  have hl : (repS k.toNat i).length ≤ 100000 := by
    rw [rep_len]
    calc k.toNat * i.length ≤ 1000 * 100 := Nat.mul_le_mul (by omega) h4
      _ = 100000 := rfl
  by_cases h0 : k < 1
  · have e0 : k = 0 := by omega
    subst e0
    exact PySem.P.mul_str_none h0 (by decide) ⟨.str Str.empty, H, I.tok _, ⟨_, rfl⟩, q⟩
  refine PySem.P.mul_str ?_ ?_ ?_ ?_
  · rw [decide_eq_false (by omega), decide_eq_false (by omega)]; rfl
  · intro _ _
    have : (i.length : Int) ≤ (2 ^ 63 - 1) / k := by
      refine Int.le_ediv_of_mul_le (by omega) ?_
      calc (i.length : Int) * k ≤ 100 * 1000 := Int.mul_le_mul (by omega) h2 (by omega) (by omega)
        _ ≤ 2 ^ 63 - 1 := by decide
    omega
  · intro _ _
    rw [rep_len, Nat.mul_comm] at hl
    exact decide_eq_false (Nat.not_lt.mpr (szLe hl))
  · rw [if_neg (by omega)]
    by_cases e : (k == 1 || i.length == 0) = true
    · rw [if_pos e]
      have hk : k = 1 := by
        have : i.length ≠ 0 := by omega
        simpa [this] using e
      subst hk
      have e1 : repS (1 : Int).toNat i = i := by
        show (⟨#[] ++ i.cps⟩ : Str) = i
        rw [Array.empty_append]
      rw [e1] at q
      exact ⟨.str i, H, I, ⟨_, rfl⟩, q⟩
    · rw [if_neg e]
      exact ⟨szLe hl, ⟨.str _, H, I.tok _, ⟨_, rfl⟩, q⟩⟩
theorem rf_rep : RefR K rRepS oRep := fun x y H M dx dy Q Q' rx ry m q l => by
  unfold oRep at q
  split at q
  · cases rx; cases ry
    exact ⟨_, _, rfl, rfl, Int.le_trans (by decide) q.1.1, q.1.2.1, q.1.2.2.1, q.1.2.2.2, finS l m q.2⟩
  · exact q.elim
def rMulAll : L2.R2 := fun x y H Q => (rI CMul (fun i j => .int (i * j)) x y H Q) ∨ rRepS x y H Q ∨ rRep x y H Q
theorem op_mulAll {X : Cx} : OpR X (binaryOp .Mult) rMulAll := op_mul.or (op_repS.or op_rep)
theorem reps_rep {H : Hp} {M : Mem} {ds : List D} {vs : List V} (r : Reps K H M ds vs) : ∀ n : Nat, Reps K H M (List.replicate n ds).flatten (List.replicate n vs).flatten
  | 0 => rfl
  | n + 1 => by
    rw [List.replicate_succ, List.replicate_succ, List.flatten_cons, List.flatten_cons]
    exact r.append (reps_rep r n)
theorem rf_mul : RefR K rMulAll oMul := fun x y H M dx dy Q Q' rx ry m q l => by
  unfold oMul at q
  split at q
  · cases rx; cases ry
    exact .inl ⟨_, _, rfl, rfl, q.1, finI l m q.2⟩
  · cases rx; cases ry
    exact .inr (.inl ⟨_, _, rfl, rfl, q.1.1, q.1.2.1, q.1.2.2.1, q.1.2.2.2, finS l m q.2⟩)
  · rename_i xs k
    obtain ⟨a, vs, rfl, ⟨h, ma, pa⟩, r⟩ := id rx
    cases ry
    have hl := r.length
    refine .inr (.inr ⟨a, k, vs, rfl, rfl, h, by omega, by omega, ?_, fun p hp => ?_⟩)
    · refine szLe ?_
      calc vs.length * k.toNat ≤ 100 * 1000 := Nat.mul_le_mul (by omega) (by omega)
        _ = 100000 := rfl
    · exact l _ _ _ _ (Fr.new hp) (rep_newL m hp (reps_rep r k.toNat)) (m.new hp) q.2
  · exact q.elim
theorem rf_addI : RefR K (ipI fun i j => i + j) oAddI := fun x y H M dx dy Q Q' rx ry m q l => by
  unfold oAddI at q
  split at q
  · cases rx; cases ry
    exact ⟨_, _, rfl, rfl, finI l m q⟩
  · exact q.elim
def rMax2' : List V → Hp → VK → Prop := fun xs H Q => ∃ i j, xs = [.int i, .int j] ∧ Q (.int (if j > i then j else i)) H
theorem rf_max : ∀ x y H M dx dy Q Q', Rep K H M dx x → Rep K H M dy y → MRep K H M → oMax dx dy M Q → Lift K H M Q Q' → rMax2' [x, y] H Q' := fun x y H M dx dy Q Q' rx ry m q l => by
  unfold oMax at q
  split at q
  · cases rx; cases ry
    exact ⟨_, _, rfl, finI l m q⟩
  · exact q.elim
theorem ref_cb2 {ta tb : TE} {t u : DE} {r : List V → Hp → VK → Prop} {rd : DL.R2} (hr : ∀ x y H M dx dy Q Q', Rep K H M dx x → Rep K H M dy y → MRep K H M → rd dx dy M Q → Lift K H M Q Q' → r [x, y] H Q') (h1 : Ref K ta t) (h2 : Ref K tb u) : Ref K (tCB r (tCons ta (tCons tb tNil))) (dOp rd t u) := fun σ H ρ M Q Q' s q l =>
  h1 σ H ρ M _ _ s q fun v H1 d M1 f1 r1 m1 q1 => h2 σ H1 ρ M1 _ _ (s.step f1 m1) q1 fun v2 H2 d2 M2 f2 r2 m2 q2 =>
    hr v v2 H2 M2 d d2 _ _ (r1.mono f2) r2 m2 q2 (l.later (f1.trans f2))
theorem rf_fdiv : RefR K (rI CDivW fun i j => .int (i / j)) oFdiv := fun x y H M dx dy Q Q' rx ry m q l => by
  unfold oFdiv at q
  split at q
  · cases rx; cases ry
    exact ⟨_, _, rfl, rfl, wide_div (b := 200) q.1.1 (by have h1 := q.1.1; have h2 := q.1.2; omega) (by decide) (by decide), finI l m q.2⟩
  · exact q.elim
theorem rf_mod : RefR K (rI (fun _ j => 0 < j) fun i j => .int (i % j)) oMod := fun x y H M dx dy Q Q' rx ry m q l => by
  unfold oMod at q
  split at q
  · cases rx; cases ry
    exact ⟨_, _, rfl, rfl, q.1, finI l m q.2⟩
  · exact q.elim
theorem rf_pow : RefR K (rI CPow fun i j => .int (i ^ j.toNat)) oPow := fun x y H M dx dy Q Q' rx ry m q l => by
  unfold oPow at q
  split at q
  · cases rx; cases ry
    exact ⟨_, _, rfl, rfl, q.1, finI l m q.2⟩
  · exact q.elim
theorem rf_neg : RefR1 K (fun xs H Q => ∃ x, xs = [x] ∧ rU (fun i => .int (-i)) x H Q) oNeg := fun x H M dx Q Q' rx m q l => by
  unfold oNeg at q
  split at q
  · cases rx
    exact ⟨_, rfl, _, rfl, finI l m q⟩
  · exact q.elim
theorem rf_lt : RefR K (rI0 fun i j => .bl (decide (i < j))) oLt := fun x y H M dx dy Q Q' rx ry m q l => by
  unfold oLt at q
  split at q
  · cases rx; cases ry
    exact ⟨_, _, rfl, rfl, finB l m q⟩
  · exact q.elim
theorem rf_le : RefR K (rI0 fun i j => .bl (decide (i ≤ j))) oLe := fun x y H M dx dy Q Q' rx ry m q l => by
  unfold oLe at q
  split at q
  · cases rx; cases ry
    exact ⟨_, _, rfl, rfl, finB l m q⟩
  · exact q.elim
theorem rf_gt : RefR K (rI0 fun i j => .bl (decide (j < i))) oGt := fun x y H M dx dy Q Q' rx ry m q l => by
  unfold oGt at q
  split at q
  · cases rx; cases ry
    exact ⟨_, _, rfl, rfl, finB l m q⟩
  · exact q.elim
theorem rf_ge : RefR K (rI0 fun i j => .bl (decide (j ≤ i))) oGe := fun x y H M dx dy Q Q' rx ry m q l => by
  unfold oGe at q
  split at q
  · cases rx; cases ry
    exact ⟨_, _, rfl, rfl, finB l m q⟩
  · exact q.elim
/-! equality -/
mutual
def toPy : D → PyData
  | .non => .none
  | .bl b => .bool b
  | .int i => .int i
  | .str x => .str x
  | .tup xs => .tuple (toPys xs)
  | .lst xs => .list (toPys xs)
  | _ => .none
def toPys : List D → List PyData
  | [] => []
  | x :: xs => toPy x :: toPys xs
end
mutual
theorem dp_of {H : Hp} {M : Mem} : ∀ {d : D} {v : V}, plain d = true → Rep K H M d v → Dp K.K H v (toPy d)
  | .non, _, _, h => by cases h; exact .non
  | .bl b, _, _, h => by cases h; exact .bl b
  | .int i, _, _, h => by cases h; exact .int i
  | .str x, _, _, h => by cases h; exact .str x
  | .tup xs, _, p, ⟨a, vs, e, q, r⟩ => by
    subst e
    exact .tup q.sq (dps_of (by simpa [plain] using p) r)
  | .lst xs, _, p, ⟨a, vs, e, q, r⟩ => by
    subst e
    exact .lst (.of q.1) (dps_of (by simpa [plain] using p) r)
  | .ref _, _, p, _ => by simp [plain] at p
  | .rol _, _, p, _ => by simp [plain] at p
  | .dK _ _, _, p, _ => by simp [plain] at p
  | .dT _ _, _, p, _ => by simp [plain] at p
  | .ins _ _ _, _, p, _ => by simp [plain] at p
  | .ty _, _, p, _ => by simp [plain] at p
  | .cls _, _, p, _ => by simp [plain] at p
theorem dps_of {H : Hp} {M : Mem} : ∀ {ds : List D} {vs : List V}, plains ds = true → Reps K H M ds vs → DpAll K.K H vs (toPys ds)
  | [], _, _, h => by rw [show _ = [] from h]; exact .nil
  | d :: ds, _, p, ⟨v, r, e, h, t⟩ => by
    subst e
    simp only [plains, Bool.and_eq_true] at p
    exact .cons (dp_of p.1 h) (dps_of p.2 t)
end
mutual
theorem eqv_py : ∀ d e : D, plain d = true → plain e = true → PyData.eqv (toPy d) (toPy e) = eqv d e
  | .non, e, _, q => by cases e <;> simp_all [toPy, PyData.eqv, eqv, plain]
  | .bl b, e, _, q => by cases e <;> simp_all [toPy, PyData.eqv, eqv, plain]
  | .int i, e, _, q => by cases e <;> simp_all [toPy, PyData.eqv, eqv, plain]
  | .str x, e, _, q => by cases e <;> simp_all [toPy, PyData.eqv, eqv, plain]
  | .tup xs, e, p, q => by
    cases e with
    | tup ys =>
      simp only [toPy, PyData.eqv, eqv]
      exact eqvs_py xs ys (by simpa [plain] using p) (by simpa [plain] using q)
    | _ => simp_all [toPy, PyData.eqv, eqv, plain]
  | .lst xs, e, p, q => by
    cases e with
    | lst ys =>
      simp only [toPy, PyData.eqv, eqv]
      exact eqvs_py xs ys (by simpa [plain] using p) (by simpa [plain] using q)
    | _ => simp_all [toPy, PyData.eqv, eqv, plain]
  | .ref _, _, p, _ => by simp [plain] at p
  | .rol _, _, p, _ => by simp [plain] at p
  | .dK _ _, _, p, _ => by simp [plain] at p
  | .dT _ _, _, p, _ => by simp [plain] at p
  | .ins _ _ _, _, p, _ => by simp [plain] at p
  | .ty _, _, p, _ => by simp [plain] at p
  | .cls _, _, p, _ => by simp [plain] at p
theorem eqvs_py : ∀ ds es : List D, plains ds = true → plains es = true → PyData.eqvAll (toPys ds) (toPys es) = eqvs ds es
  | [], [], _, _ => by simp [toPys, PyData.eqvAll, eqvs]
  | [], _ :: _, _, _ => by simp [toPys, PyData.eqvAll, eqvs]
  | _ :: _, [], _, _ => by simp [toPys, PyData.eqvAll, eqvs]
  | d :: ds, e :: es, p, q => by
    simp only [plains, Bool.and_eq_true] at p q
    simp only [toPys, PyData.eqvAll, eqvs]
    rw [eqv_py d e p.1 q.1, eqvs_py ds es p.2 q.2]
end
mutual
theorem lay_py : ∀ d : D, plain d = true → (toPy d).canLay0 = true
  | .non, _ => by simp [toPy, PyData.canLay0]
  | .bl _, _ => by simp [toPy, PyData.canLay0]
  | .int _, _ => by simp [toPy, PyData.canLay0]
  | .str x, p => by
    simp only [toPy, PyData.canLay0]
    have q : strOk x = true := by simpa [plain] using p
    exact q
  | .tup xs, p => by
    simp only [toPy, PyData.canLay0]
    exact lays_py xs (by simpa [plain] using p)
  | .lst xs, p => by
    simp only [toPy, PyData.canLay0]
    exact lays_py xs (by simpa [plain] using p)
  | .ref _, p => by simp [plain] at p
  | .rol _, p => by simp [plain] at p
  | .dK _ _, p => by simp [plain] at p
  | .dT _ _, p => by simp [plain] at p
  | .ins _ _ _, p => by simp [plain] at p
  | .ty _, p => by simp [plain] at p
  | .cls _, p => by simp [plain] at p
theorem lays_py : ∀ ds : List D, plains ds = true → PyData.canLayAll0 (toPys ds) = true
  | [], _ => by simp [toPys, PyData.canLayAll0]
  | d :: ds, p => by
    simp only [plains, Bool.and_eq_true] at p
    simp only [toPys, PyData.canLayAll0, Bool.and_eq_true]
    exact ⟨lay_py d p.1, lays_py ds p.2⟩
end

mutual
theorem depth_py : ∀ d : D, (toPy d).depth ≤ depth d
  | .non => by simp [toPy, PyData.depth]
  | .bl _ => by simp [toPy, PyData.depth]
  | .int _ => by simp [toPy, PyData.depth]
  | .str x => by simp [toPy, PyData.depth]
  | .tup xs => by
    simp only [toPy, PyData.depth, depth]
    have := depths_py xs
    omega
  | .lst xs => by
    simp only [toPy, PyData.depth, depth]
    have := depths_py xs
    omega
  | .ref _ => by simp [toPy, PyData.depth]
  | .rol _ => by simp [toPy, PyData.depth]
  | .dK _ _ => by simp [toPy, PyData.depth]
  | .dT _ _ => by simp [toPy, PyData.depth]
  | .ins _ _ _ => by simp [toPy, PyData.depth]
  | .ty _ => by simp [toPy, PyData.depth]
  | .cls _ => by simp [toPy, PyData.depth]
theorem depths_py : ∀ ds : List D, PyData.depthAll (toPys ds) ≤ depths ds
  | [] => by simp [toPys, PyData.depthAll]
  | d :: ds => by
    simp only [toPys, PyData.depthAll, depths]
    have h1 := depth_py d
    have h2 := depths_py ds
    omega
end
theorem shaped_of {d : D} (h : cmpOk d = true) : SeqAt.shaped (toPy d) = true := by
  simp only [cmpOk, Bool.and_eq_true, decide_eq_true_eq] at h
  simp only [SeqAt.shaped, Bool.and_eq_true, decide_eq_true_eq]
  exact ⟨lay_py d h.1, Nat.le_trans (depth_py d) h.2⟩
theorem cmp_plain {d : D} (h : cmpOk d = true) : plain d = true := by
  simp only [cmpOk, Bool.and_eq_true] at h
  exact h.1
/-- a list of the memory, compared -/
theorem dp_asC {H : Hp} {M : Mem} {d : D} {v : V} (m : MRep K H M) (r : Rep K H M d v) (h : cmpOk (asC M d) = true) : Dp K.K H v (toPy (asC M d)) := by
  cases d with
  | ref a =>
    cases r
    simp only [asC] at h ⊢
    cases e : M a with
    | none => rw [e] at h; simp [cmpOk, plain] at h
    | some o =>
      rw [e] at h
      cases o with
      | lst xs =>
        obtain ⟨vs, q, rr⟩ := m.obj a _ e
        exact .lst (.of q) (dps_of (by simpa [plain] using cmp_plain h) rr)
      | _ => simp [cmpOk, plain] at h
  | _ => exact dp_of (cmp_plain h) r
def rEqAll (K : PySem.W.Frag) : L2.R2 := fun x y H Q => L2.rEq x y H Q ∨ rEqD K x y H Q
def rNeAll (K : PySem.W.Frag) : L2.R2 := fun x y H Q => L2.rNe x y H Q ∨ rNeD K x y H Q
theorem op_eqAll {X : Cx} (hu : X.A.units + 64 < cLine) : OpR X (compareOp .Eq) (rEqAll X.K) := op_eq.or (op_eqD hu)
theorem op_neAll {X : Cx} (hu : X.A.units + 64 < cLine) : OpR X (compareOp .NotEq) (rNeAll X.K) := op_ne.or (op_neD hu)
theorem dec_V {x y : V} {p : Prop} [Decidable p] (h : x = y ↔ p) : decide (x = y) = decide p := by
  by_cases c : p
  · rw [decide_eq_true c, decide_eq_true (h.mpr c)]
  · rw [decide_eq_false c, decide_eq_false (fun z => c (h.mp z))]
theorem eqB_cases {H : Hp} {M : Mem} {dx dy : D} {x y : V} {Q : BK} (rx : Rep K H M dx x) (ry : Rep K H M dy y) (m : MRep K H M) (q : eqB dx dy M Q) :
    (scal x y = true ∧ Q (decide (x = y)) M) ∨ ∃ d e, Dp K.K H x d ∧ Dp K.K H y e ∧ SeqAt.shaped d = true ∧ SeqAt.shaped e = true ∧ Q (PyData.eqv d e) M := by
  unfold eqB at q
  split at q
  · cases rx; cases ry
    exact .inl ⟨rfl, by rw [dec_V ⟨fun e => V.str.inj e, fun e => by rw [e]⟩]; exact q⟩
  · cases rx; cases ry
    exact .inl ⟨rfl, by rw [dec_V ⟨fun e => V.int.inj e, fun e => by rw [e]⟩]; exact q⟩
  · cases rx; cases ry
    exact .inl ⟨rfl, by rw [dec_V ⟨fun e => V.bl.inj e, fun e => by rw [e]⟩]; exact q⟩
  · refine .inr ⟨_, _, dp_asC m rx q.1, dp_asC m ry q.2.1, shaped_of q.1, shaped_of q.2.1, ?_⟩
    rw [eqv_py _ _ (cmp_plain q.1) (cmp_plain q.2.1)]
    exact q.2.2
theorem rf_eq : RefR K (rEqAll K.K) oEq := fun x y H M dx dy Q Q' rx ry m q l => by
  rcases eqB_cases rx ry m q with ⟨h, q⟩ | ⟨d, e, h1, h2, h3, h4, q⟩
  · exact .inl ⟨h, finB l m q⟩
  · exact .inr ⟨d, e, h1, h2, h3, h4, finB l m q⟩
theorem rf_ne : RefR K (rNeAll K.K) oNe := fun x y H M dx dy Q Q' rx ry m q l => by
  rcases eqB_cases rx ry m q with ⟨h, q⟩ | ⟨d, e, h1, h2, h3, h4, q⟩
  · exact .inl ⟨h, finB l m q⟩
  · exact .inr ⟨d, e, h1, h2, h3, h4, finB l m q⟩
theorem non_iff {H : Hp} {M : Mem} {d : D} {x : V} (r : Rep K H M d x) : decide (x = .non) = (match d with | .non => true | _ => false) := by
  cases d with
  | non => cases r; rfl
  | bl _ => cases r; rfl
  | int _ => cases r; rfl
  | str _ => cases r; rfl
  | ref _ => cases r; rfl
  | ty _ => cases r; rfl
  | cls _ => cases r; rfl
  | tup _ => obtain ⟨a, vs, rfl, _⟩ := r; rfl
  | lst _ => obtain ⟨a, vs, rfl, _⟩ := r; rfl
  | rol _ => obtain ⟨a, vs, rfl, _⟩ := r; rfl
  | dK _ _ => obtain ⟨a, vs, rfl, _⟩ := r; rfl
  | dT _ _ => obtain ⟨a, vs, rfl, _⟩ := r; rfl
  | ins _ _ _ => obtain ⟨a, dx, vs, rfl, _⟩ := r; rfl
theorem ref_isN {ta : TE} {t : DE} (h1 : Ref K ta t) : Ref K (tIsN ta) (dUn oIsN t) := fun σ H ρ M Q Q' s q l =>
  h1 σ H ρ M _ _ s q fun v H1 d M1 f1 r1 m1 q1 => by
    rw [non_iff r1]
    cases d <;> exact finB (l.later f1) m1 q1
theorem ref_notN {ta : TE} {t : DE} (h1 : Ref K ta t) : Ref K (tNotN ta) (dUn oNotN t) := fun σ H ρ M Q Q' s q l =>
  h1 σ H ρ M _ _ s q fun v H1 d M1 f1 r1 m1 q1 => by
    rw [non_iff r1]
    cases d <;> exact finB (l.later f1) m1 q1
/-! in -/
theorem flat_rep {H : Hp} {M : Mem} {d : D} {x : V} (h : flat d = true) (r : Rep K H M d x) : flatV x = true := by
  cases d with
  | non => cases r; rfl
  | bl _ => cases r; rfl
  | int _ => cases r; rfl
  | str _ => cases r; rfl
  | _ => simp [flat] at h
theorem flat_eqv {H : Hp} {M : Mem} {d e : D} {x y : V} (h : flat d = true) (g : flat e = true) (r : Rep K H M d x) (q : Rep K H M e y) : eqV x y = eqv d e := by
  cases d with
  | non => cases r; cases e <;> first | (cases q; rfl) | simp [flat] at g
  | bl _ => cases r; cases e <;> first | (cases q; rfl) | simp [flat] at g
  | int _ => cases r; cases e <;> first | (cases q; rfl) | simp [flat] at g
  | str _ => cases r; cases e <;> first | (cases q; rfl) | simp [flat] at g
  | _ => simp [flat] at h
theorem flat_all {H : Hp} {M : Mem} {x : V} {d : D} (g : flat d = true) (q : Rep K H M d x) : ∀ {ds : List D} {vs : List V}, ds.all flat = true → Reps K H M ds vs → vs.all flatV = true ∧ inV x vs = ds.any fun z => eqv z d
  | [], _, _, h => by rw [show _ = [] from h]; exact ⟨rfl, rfl⟩
  | e :: ds, _, p, ⟨v, r, e', h, t⟩ => by
    subst e'
    simp only [List.all_cons, Bool.and_eq_true] at p
    obtain ⟨h1, h2⟩ := flat_all g q p.2 t
    refine ⟨by simp only [List.all_cons, Bool.and_eq_true]; exact ⟨flat_rep p.1 h, h1⟩, ?_⟩
    unfold inV at h2 ⊢
    rw [List.any_cons, List.any_cons, h2, flat_eqv p.1 g h q]
def rInAll (K : PySem.W.Frag) : L2.R2 := fun x y H Q => (∃ (c : Nat) (z : Str), x = .str ⟨#[c]⟩ ∧ y = .str z ∧ Q (.bl (decide (c ∈ z.cps.toList))) H) ∨ rIn K false x y H Q
def rNotInAll (K : PySem.W.Frag) : L2.R2 := fun x y H Q => (∃ (c : Nat) (z : Str), x = .str ⟨#[c]⟩ ∧ y = .str z ∧ Q (.bl (!decide (c ∈ z.cps.toList))) H) ∨ rIn K true x y H Q
theorem op_inAll {X : Cx} : OpR X (compareOp .In) (rInAll X.K) := op_in_sign.or op_in_seq
theorem op_notInAll {X : Cx} : OpR X (compareOp .NotIn) (rNotInAll X.K) := op_notIn_sign.or op_notIn_seq
theorem inB_cases {H : Hp} {M : Mem} {dx dy : D} {x y : V} {Q : BK} (rx : Rep K H M dx x) (ry : Rep K H M dy y) (m : MRep K H M) (q : inB dx dy M Q) :
    (∃ (c : Nat) (z : Str), x = .str ⟨#[c]⟩ ∧ y = .str z ∧ Q (decide (c ∈ z.cps.toList)) M) ∨ (∃ p xs, y = .ref p ∧ (SqL K.K H p xs ∨ SqT K.K H p xs) ∧ flatV x = true ∧ xs.all flatV = true ∧ Q (inV x xs) M) := by
  unfold inB at q
  split at q
  · cases rx; cases ry
    obtain ⟨c, rfl, q⟩ := q
    exact .inl ⟨c, _, rfl, rfl, q⟩
  · split at q
    · rename_i ys e
      obtain ⟨a, vs, ey, h, r⟩ := asS_rep m ry e
      obtain ⟨h1, h2⟩ := flat_all q.1 rx q.2.1 r
      exact .inr ⟨a, vs, ey, h, flat_rep q.1 rx, h1, by rw [h2]; exact q.2.2⟩
    · exact q.elim
theorem rf_in : RefR K (rInAll K.K) oIn := fun x y H M dx dy Q Q' rx ry m q l => by
  rcases inB_cases rx ry m q with ⟨c, z, e1, e2, q⟩ | ⟨p, xs, e1, h, h1, h2, q⟩
  · exact .inl ⟨c, z, e1, e2, finB l m q⟩
  · exact .inr ⟨p, xs, e1, h, h1, h2, finB l m q⟩
theorem rf_notIn : RefR K (rNotInAll K.K) oNotIn := fun x y H M dx dy Q Q' rx ry m q l => by
  rcases inB_cases rx ry m q with ⟨c, z, e1, e2, q⟩ | ⟨p, xs, e1, h, h1, h2, q⟩
  · exact .inl ⟨c, z, e1, e2, finB l m q⟩
  · exact .inr ⟨p, xs, e1, h, h1, h2, finB l m q⟩
/-! subscripts -/
theorem rf_ix : RefR K (rIx K.K) oIx := fun x y H M dx dy Q Q' rx ry m q l => by
  unfold oIx at q
  split at q
  · cases rx; cases ry
    obtain ⟨h, q⟩ := q
    split at q
    · rename_i c e
      exact .inr (.inr ⟨_, _, c, rfl, rfl, szLe h, e, finS l m q⟩)
    · exact q.elim
  · cases ry
    split at q
    · rename_i xs e
      split at q
      · rename_i d e'
        obtain ⟨a, vs, rfl, h, r⟩ := asS_rep m rx e
        obtain ⟨v, hv, rv⟩ := atI_rep r e'
        rcases h with h | h
        · exact .inl ⟨a, vs, _, v, rfl, rfl, h, hv, fin l m rv q⟩
        · exact .inr (.inl ⟨a, vs, _, v, rfl, rfl, h, hv, fin l m rv q⟩)
      · exact q.elim
    · exact q.elim
  · exact q.elim
def rCutAll (K : PySem.W.Frag) : V → Option Int → Option Int → Hp → VK → Prop := fun x lo hi H Q => rSlS x lo hi H Q ∨ rSlA K x lo hi H Q ∨ rSlL K x lo hi H Q
theorem sl_all {X : Cx} : SlR X (rCutAll X.K) := sl_str.or (sl_tupA.or sl_list)
theorem cut_whole {xs : List V} {lo hi : Option Int} (h : HT.sIx xs.length 0 lo = 0 ∧ HT.sIx xs.length xs.length hi = xs.length) : cutV xs lo hi = xs := by
  unfold cutV
  rw [h.1, h.2, Nat.sub_zero, List.drop_zero, List.take_length]
theorem reps_inj_len {H : Hp} {M : Mem} {ds : List D} {vs : List V} (r : Reps K H M ds vs) : ds.length = vs.length := r.length
theorem rf_cut {x : V} {H : Hp} {M : Mem} {d : D} {lo hi : Option Int} {Q : DK} {Q' : VK} (rx : Rep K H M d x) (m : MRep K H M) (q : oCut d lo hi M Q) (l : Lift K H M Q Q') : rCutAll K.K x lo hi H Q' := by
  unfold oCut at q
  split at q
  · cases rx
    exact .inl ⟨_, rfl, szLe q.1, finS l m q.2⟩
  · rename_i xs
    obtain ⟨a, vs, rfl, h, r⟩ := id rx
    refine .inr (.inl ⟨a, vs, rfl, h.sq, fun w => ?_, fun _ p hp => ?_⟩)
    · have e : DL.cut xs lo hi = xs := by
        unfold DL.cut
        have w1 : sIx xs.length 0 lo = 0 := by rw [r.length]; exact w.1
        have w2 : sIx xs.length xs.length hi = xs.length := by rw [r.length]; exact w.2
        rw [w1, w2, Nat.sub_zero, List.drop_zero, List.take_length]
      rw [e] at q
      exact fin l m rx q
    · exact l _ _ _ _ (Fr.new hp) (rep_newT m hp (r.cut lo hi)) (m.new hp) q
  · split at q
    · rename_i xs e
      obtain ⟨a, vs, rfl, h, r⟩ := asL_rep m rx e
      exact .inr (.inr ⟨a, vs, rfl, h, fun p hp => l _ _ _ _ (Fr.new hp) (rep_newL m hp (r.cut lo hi)) (m.new hp) q⟩)
    · exact q.elim
abbrev DO := Env → Mem → (Option Int → Mem → Prop) → Prop
def RefO (K : Fg) (to : TO) (t : DO) : Prop := ∀ σ H ρ M (Q : Option Int → Mem → Prop) (Q' : Option Int → Hp → Prop), SRep K σ H ρ M → t ρ M Q → (∀ o H' M', Fr H M H' M' → MRep K H' M' → Q o M' → Q' o H') → to σ H Q'
theorem refO_none : RefO K tNoPart dNoPart := fun σ H ρ M Q Q' s q l => l none H M (Fr.refl H M) s.mem q
theorem refO_some {ta : TE} {t : DE} (h1 : Ref K ta t) : RefO K (tPart ta) (dPart t) := fun σ H ρ M Q Q' s q l =>
  h1 σ H ρ M _ _ s q fun v H1 d M1 f1 r1 m1 q1 => by
    cases d with
    | int i => cases r1; exact ⟨i, rfl, l _ H1 M1 f1 m1 q1⟩
    | _ => exact q1.elim
theorem ref_cut {te : TE} {t : DE} {tl th : TO} {dl dh : DO} (h : Ref K te t) (h1 : RefO K tl dl) (h2 : RefO K th dh) : Ref K (tSl (rCutAll K.K) te tl th) (dCut t dl dh) := fun σ H ρ M Q Q' s q l =>
  h σ H ρ M _ _ s q fun v H1 d M1 f1 r1 m1 q1 => h1 σ H1 ρ M1 _ _ (s.step f1 m1) q1 fun lo H2 M2 f2 m2 q2 => h2 σ H2 ρ M2 _ _ (s.step (f1.trans f2) m2) q2 fun hi H3 M3 f3 m3 q3 =>
    rf_cut (r1.mono (f2.trans f3)) m3 q3 (l.later ((f1.trans f2).trans f3))
/-! built-ins -/
def rLenAll (K : PySem.W.Frag) : List V → Hp → VK → Prop := fun xs H Q => ∃ x n, xs = [x] ∧ LenV K x H n ∧ Q (.int n) H
theorem rf_len : RefR1 K (rLenAll K.K) oLen := fun x H M dx Q Q' rx m q l => by
  unfold oLen at q
  split at q
  · cases rx
    exact ⟨_, _, rfl, ⟨szLe q.1, rfl⟩, finI l m q.2⟩
  · split at q
    · rename_i xs e
      obtain ⟨a, vs, rfl, h, r⟩ := asS_rep m rx e
      rw [r.length] at q
      rcases h with h | h
      · exact ⟨_, vs.length, rfl, .inl ⟨vs, h, rfl⟩, finI l m q⟩
      · exact ⟨_, vs.length, rfl, .inr ⟨vs, h, rfl⟩, finI l m q⟩
    · exact q.elim
theorem rf_abs : RefR1 K (fun xs H Q => ∃ i, xs = [.int i] ∧ Q (.int (if i < 0 then -i else i)) H) oAbs := fun x H M dx Q Q' rx m q l => by
  unfold oAbs at q
  split at q
  · cases rx; exact ⟨_, rfl, finI l m q⟩
  · exact q.elim
theorem rf_int : RefR1 K (fun xs H Q => (∃ i, xs = [.int i] ∧ Q (.int i) H) ∨ ∃ k, xs = [.bl k] ∧ Q (.int (if k then 1 else 0)) H) oInt := fun x H M dx Q Q' rx m q l => by
  unfold oInt at q
  split at q
  · cases rx; exact .inl ⟨_, rfl, finI l m q⟩
  · cases rx; exact .inr ⟨_, rfl, finI l m q⟩
  · exact q.elim
theorem rf_str : RefR1 K (fun xs H Q => ∃ i, xs = [.int i] ∧ i.natAbs.log2 < 1920 ∧ Q (.str (toString i)) H) oStr := fun x H M dx Q Q' rx m q l => by
  unfold oStr at q
  split at q
  · cases rx
    refine ⟨_, rfl, ?_, finS l m q.2⟩
    rename_i i
    by_cases z : i.natAbs = 0
    · rw [z]; decide
    · have := (Nat.log2_lt z).mpr q.1
      omega
  · exact q.elim
theorem rf_tuple : RefR1 K (fun xs H Q => ∃ p ys, xs = [.ref p] ∧ ((SqL K.K H p ys ∧ ∀ l, H l = none → Q (.ref l) (upd H l (.tup ys))) ∨ (SqT K.K H p ys ∧ Q (.ref p) H))) oTuple := fun x H M dx Q Q' rx m q l => by
  unfold oTuple at q
  split at q
  · obtain ⟨a, vs, rfl, h, r⟩ := id rx
    exact ⟨a, vs, rfl, .inr ⟨h.sq, fin l m rx q⟩⟩
  · split at q
    · rename_i xs e
      obtain ⟨a, vs, rfl, h, r⟩ := asL_rep m rx e
      exact ⟨a, vs, rfl, .inl ⟨h, fun p hp => l _ _ _ _ (Fr.new hp) (rep_newT m hp r) (m.new hp) q⟩⟩
    · exact q.elim
theorem rf_list : RefR1 K (fun xs H Q => ∃ p ys, xs = [.ref p] ∧ (SqL K.K H p ys ∨ SqT K.K H p ys) ∧ ∀ l, H l = none → Q (.ref l) (upd H l (.lst ys))) oList := fun x H M dx Q Q' rx m q l => by
  unfold oList at q
  split at q
  · rename_i xs e
    obtain ⟨a, vs, rfl, h, r⟩ := asS_rep m rx e
    exact ⟨a, vs, rfl, h, fun p hp => l _ _ _ _ (Fr.new hp) (rep_newL m hp r) (m.new hp) q⟩
  · exact q.elim
theorem dBools_rep {H : Hp} {M : Mem} : ∀ {ds : List D} {vs : List V} {bs : List Bool}, dBools ds = some bs → Reps K H M ds vs → vs = bs.map V.bl
  | [], _, _, e, h => by cases e; rw [show _ = [] from h]; rfl
  | .bl b :: r, _, bs, e, ⟨v, w, rfl, h, t⟩ => by
    unfold dBools at e
    cases q : dBools r with
    | none => rw [q] at e; cases e
    | some cs =>
      rw [q] at e
      cases e
      cases h
      rw [dBools_rep q t]
      rfl
  | .non :: _, _, _, e, _ => by cases e
  | .int _ :: _, _, _, e, _ => by cases e
  | .str _ :: _, _, _, e, _ => by cases e
  | .ref _ :: _, _, _, e, _ => by cases e
  | .tup _ :: _, _, _, e, _ => by cases e
  | .lst _ :: _, _, _, e, _ => by cases e
  | .rol _ :: _, _, _, e, _ => by cases e
  | .dK _ _ :: _, _, _, e, _ => by cases e
  | .dT _ _ :: _, _, _, e, _ => by cases e
  | .ins _ _ _ :: _, _, _, e, _ => by cases e
  | .ty _ :: _, _, _, e, _ => by cases e
  | .cls _ :: _, _, _, e, _ => by cases e
theorem dInts_rep {H : Hp} {M : Mem} : ∀ {ds : List D} {vs : List V} {bs : List Int}, dInts ds = some bs → Reps K H M ds vs → vs = bs.map V.int
  | [], _, _, e, h => by cases e; rw [show _ = [] from h]; rfl
  | .int b :: r, _, bs, e, ⟨v, w, rfl, h, t⟩ => by
    unfold dInts at e
    cases q : dInts r with
    | none => rw [q] at e; cases e
    | some cs =>
      rw [q] at e
      cases e
      cases h
      rw [dInts_rep q t]
      rfl
  | .non :: _, _, _, e, _ => by cases e
  | .bl _ :: _, _, _, e, _ => by cases e
  | .str _ :: _, _, _, e, _ => by cases e
  | .ref _ :: _, _, _, e, _ => by cases e
  | .tup _ :: _, _, _, e, _ => by cases e
  | .lst _ :: _, _, _, e, _ => by cases e
  | .rol _ :: _, _, _, e, _ => by cases e
  | .dK _ _ :: _, _, _, e, _ => by cases e
  | .dT _ _ :: _, _, _, e, _ => by cases e
  | .ins _ _ _ :: _, _, _, e, _ => by cases e
  | .ty _ :: _, _, _, e, _ => by cases e
  | .cls _ :: _, _, _, e, _ => by cases e
theorem rf_all : RefR1 K (rAll K.K) oAll := fun x H M dx Q Q' rx m q l => by
  unfold oAll at q
  split at q
  · rename_i bs e
    obtain ⟨xs, e1, e2⟩ := Option.bind_eq_some_iff.mp e
    obtain ⟨a, vs, rfl, h, r⟩ := asL_rep m rx e1
    exact ⟨a, bs, rfl, dBools_rep e2 r ▸ h, finB l m q⟩
  · exact q.elim
theorem rf_any : RefR1 K (rAny K.K) oAny := fun x H M dx Q Q' rx m q l => by
  unfold oAny at q
  split at q
  · rename_i bs e
    obtain ⟨xs, e1, e2⟩ := Option.bind_eq_some_iff.mp e
    obtain ⟨a, vs, rfl, h, r⟩ := asL_rep m rx e1
    exact ⟨a, bs, rfl, dBools_rep e2 r ▸ h, finB l m q⟩
  · exact q.elim
theorem rf_sum : RefR1 K (rSum K.K) oSum := fun x H M dx Q Q' rx m q l => by
  unfold oSum at q
  split at q
  · rename_i bs e
    obtain ⟨xs, e1, e2⟩ := Option.bind_eq_some_iff.mp e
    obtain ⟨a, vs, rfl, h, r⟩ := asL_rep m rx e1
    exact ⟨a, bs, rfl, dInts_rep e2 r ▸ h, finI l m q⟩
  · exact q.elim
/-! isinstance -/
def kinds7 : List String := ["NoneType", "bool", "int", "str", "tuple", "list", "dict"]
def kitT (T : String) : Bool := kinds7.all fun a => kitB a T == some (a == T || (T == "int" && a == "bool"))
theorem tyX_of {H : Hp} {M : Mem} {d : D} {x : V} (m : MRep K H M) (r : Rep K H M d x) (h : tyOf M d ≠ "") : TyX K.K H x (.type (tyOf M d)) ∧ tyOf M d ∈ kinds7 := by
  cases d with
  | non => cases r; exact ⟨.base .non, by simp [tyOf, kinds7]⟩
  | bl b => cases r; exact ⟨.base (.bl b), by simp [tyOf, kinds7]⟩
  | int b => cases r; exact ⟨.base (.int b), by simp [tyOf, kinds7]⟩
  | str b => cases r; exact ⟨.base (.str b), by simp [tyOf, kinds7]⟩
  | tup ds =>
    obtain ⟨a, vs, rfl, q, _⟩ := r
    refine ⟨?_, by simp [tyOf, kinds7]⟩
    rcases q with ⟨q, _⟩ | ⟨o, _, _, q, c, _⟩
    · exact .base (.tup q)
    · exact .kTuple q c
  | lst ds => obtain ⟨a, vs, rfl, q, _⟩ := r; exact ⟨.base (.lst q.1), by simp [tyOf, kinds7]⟩
  | dK _ _ => obtain ⟨a, vs, rfl, q, _⟩ := r; exact ⟨.base (.dK q.1), by simp [tyOf, kinds7]⟩
  | dT _ _ => obtain ⟨a, vs, rfl, q, _⟩ := r; exact ⟨.base (.dT q.1), by simp [tyOf, kinds7]⟩
  | ref a =>
    cases r
    simp only [tyOf] at h ⊢
    cases e : M a with
    | none => rw [e] at h; exact absurd rfl h
    | some o =>
      rw [e] at h
      cases o with
      | lst _ => obtain ⟨vs, q, _⟩ := m.obj a _ e; exact ⟨.base (.lst q), by simp [tyOf, kinds7]⟩
      | dK _ _ => obtain ⟨vs, q, _⟩ := m.obj a _ e; exact ⟨.base (.dK q), by simp [tyOf, kinds7]⟩
      | dT _ _ => obtain ⟨vs, q, _⟩ := m.obj a _ e; exact ⟨.base (.dT q), by simp [tyOf, kinds7]⟩
      | _ => exact absurd rfl h
  | _ => exact absurd rfl h
theorem rf_isi {T : String} (hT : kitT T = true) {ta : TE} {t : DE} (h1 : Ref K ta t) : Ref K (tCB (rIsi K.K) (tCons ta (tCons (tC (.ty T)) tNil))) (dUn (oIsi T) t) := fun σ H ρ M Q Q' s q l =>
  h1 σ H ρ M _ _ s q fun v H1 d M1 f1 r1 m1 q1 => by
    obtain ⟨h, q1⟩ := q1
    obtain ⟨ty, hm⟩ := tyX_of m1 r1 h
    have e : kitB (tyOf M1 d) T = some (tyOf M1 d == T || (T == "int" && tyOf M1 d == "bool")) := by
      unfold kitT at hT
      rw [List.all_eq_true] at hT
      exact eq_of_beq (hT _ hm)
    exact ⟨v, _, _, _, _, rfl, .ty T, ty, kit_ty e, finB (l.later f1) m1 q1⟩
end
end DL
/-! DLE: enumerate over tuples; a for over a list, a tuple or a text. -/
namespace DLE
open PySem PySem.Spec PyProof.Rows L2
open AutoSeq1 (wpAny_loadPart')

theorem meets_enumerate_newT (l : Addr) (items : Array Value) (n : Nat) (dct : Option Addr) (sl : Array (Option Value)) :
    Meets (Builtin.«enumerate.__new__» ⟨[.type "enumerate", .ref l], []⟩) (fun _ R s => s.heap.get? l = some { cls := .type "tuple", dict := dct, data := .seq items n, slots := sl } ∧
      R (.ok (.ret (.ref (s.heap.push { cls := .type "tuple_iterator", data := .fields #[.ref l, .int 0 0] }).objs.size)))
        { s with heap := (s.heap.push { cls := .type "tuple_iterator", data := .fields #[.ref l, .int 0 0] }).push { cls := .type "enumerate", data := .fields #[.none, .bool false, .ref s.heap.objs.size, rawInt 0, .none, .none] } }) :=
  .of_wp fun prog w A R s h => by
    obtain ⟨hp, g, d, tk, os⟩ := s; obtain ⟨hl, h⟩ := h
    have hsub := sub_enumerate
    have hL : Heap.IsTuple (Shared.heap ⟨hp, g, d, tk, os⟩) l items := ⟨_, hl, rfl, n, rfl⟩
    wp_walk using wpAny_loadPart' hl
    refine wpAny_stack_any fun st => wpAny_pure ?_
    split
    · rename_i c _ _ _ _ _
      cases (c == Value.type "enumerate")
      · wp_walk using wpAny_loadPart' hl, wpAny_pyIter_tuple hL
        exact ⟨_, rfl, h⟩
      · wp_walk using wpAny_loadPart' hl, wpAny_pyIter_tuple hL
        exact ⟨_, rfl, h⟩
    · wp_walk using wpAny_loadPart' hl, wpAny_pyIter_tuple hL
      exact ⟨_, rfl, h⟩
theorem call_enumerate_tuple {prog : Program} {w : World} {A : Around} {E : Value → Shared → Prop} {s : Shared} {l : Addr} {items : Array Value} {Q : Value → Shared → Prop} (hL : s.heap.IsTuple l items)
    (h : ∀ h', IsEnum h' (s.heap.objs.size + 1) s.heap.objs.size 0 .none → h'.IsTupleIter s.heap.objs.size l 0 → h'.objs.size = s.heap.objs.size + 2 →
      (∀ b o, s.heap.get? b = some o → h'.get? b = some o) → Q (.ref (s.heap.objs.size + 1)) { s with heap := h' }) :
    wpAny (model prog w) A (call (.type "enumerate") [.ref l]) Q E s := by
  obtain ⟨⟨c, dct, dt, sl⟩, hl, hc, n, hd⟩ := hL
  replace hc : c = .type "tuple" := hc
  replace hd : dt = .seq items n := hd
  subst hc hd
  refine callType_new F.called_enumerate (by decide) (F.typeCall_enumerate_1 _) (F.newCall_enumerate_1 _) (fun obj => F.args_object_init_2 obj _) F.entry_enumerate_new
    (meets_enumerate_newT l items n dct sl) ⟨hl, ?_⟩
  have hz : (s.heap.push { cls := .type "tuple_iterator", data := .fields #[.ref l, .int 0 0] }).objs.size = s.heap.objs.size + 1 := Heap.size_push ..
  show _ ∧ _
  rw [hz]
  have he : IsEnum ((s.heap.push { cls := .type "tuple_iterator", data := .fields #[.ref l, .int 0 0] }).push
      { cls := .type "enumerate", data := .fields #[.none, .bool false, .ref s.heap.objs.size, rawInt 0, .none, .none] }) (s.heap.objs.size + 1) s.heap.objs.size 0 .none := by
    have := Heap.get?_push_size (s.heap.push { cls := .type "tuple_iterator", data := .fields #[.ref l, .int 0 0] })
      (o := { cls := .type "enumerate", data := .fields #[.none, .bool false, .ref s.heap.objs.size, rawInt 0, .none, .none] }) rfl
    rw [hz] at this; exact this
  refine ⟨⟨_, he, rfl⟩, h _ he ⟨_, Heap.get?_push_of_some _ (Heap.get?_push_size _ rfl), rfl, rfl⟩ (by rw [Heap.size_push, hz]) fun b o x => Heap.get?_push_of_some _ (Heap.get?_push_of_some _ x)⟩

/-- the tuple at a, each item in a new pair -/
def IteT (K : PySem.W.Frag) (a : Addr) : It :=
  ⟨fun i H => ∃ (xs : List V) (x : V), SqT K H a xs ∧ xs[i]? = some x, fun i H v H' => ∃ T x, v = .ref T ∧ H T = none ∧ H' = upd H T (.tup [.int (i : Nat), x]) ∧ ∀ xs, SqT K H a xs → xs[i]? = some x, fun i H => ∃ xs : List V, SqT K H a xs ∧ xs.length = i⟩
theorem tup_ne {h : Heap} {a it : Addr} {i : Nat} {items : Array Value} (p : h.IsTuple a items) (q : h.IsTupleIter it a i) : a ≠ it := by
  rintro rfl
  obtain ⟨o, ho, hc, _⟩ := p
  obtain ⟨o', ho', hc', _⟩ := q
  rw [ho] at ho'
  cases ho'
  rw [hc] at hc'
  simp at hc'
theorem enum_ne {h : Heap} {a e it : Addr} {i : Int} {old : Value} {items : Array Value} (p : h.IsTuple a items) (q : IsEnum h e it i old) : e ≠ a := by
  rintro rfl
  obtain ⟨o, ho, hc, _⟩ := p
  have q' : h.get? e = some _ := q
  rw [ho] at q'
  cases q'
  simp at hc
theorem turn_enumT {P : Program} {w : World} {K : PySem.W.Frag} {elts : List Expr} {kk : Nat} {tpos : Pos} (a e it : Addr) :
    Turn P w K (.Tuple elts kk tpos) (IteT K a) [e, it] e (fun i h => (∃ old, IsEnum h e it ((i : Nat) : Int) old) ∧ h.IsTupleIter it a i ∧ e ≠ it) where
  mem := by simp
  obj := fun i h st b hb => by
    obtain ⟨⟨old, he⟩, ⟨o, ho, hc, hd⟩, _⟩ := st
    have e' : b = e ∨ b = it := by simpa using hb
    rcases e' with z | z
    · rw [z]; exact ⟨_, he, fun v q => nomatch q⟩
    · rw [z]; exact ⟨o, ho, fun v q => by rw [hd] at q; cases q⟩
  keep := fun i h h' st k => let ⟨⟨old, he⟩, hi, hne⟩ := st; ⟨⟨old, k e (by simp) _ he⟩, hi.at fun o q => k it (by simp) o q, hne⟩
  item := by
    intro X hP hw hK hc i pins s σ H E I hf st hg
    subst hP hw hK
    obtain ⟨⟨old, he⟩, hit, hne⟩ := st
    obtain ⟨xs, x, hq, hx⟩ := hg
    obtain ⟨its, rv, p, hz⟩ := I.tuple hq
    obtain ⟨u, hu, ru⟩ := rv.get hx
    have p' : s.heap.IsTuple a its.toArray := p
    have hel : e < s.heap.objs.size := Heap.lt_size he
    have hil : it < s.heap.objs.size := by obtain ⟨_, q, _⟩ := hit; exact Heap.lt_size q
    have hai : a ≠ it := tup_ne p' hit
    have hea : e ≠ a := enum_ne p' he
    have hlt : i < its.toArray.size := by
      have : i < its.length := (List.getElem?_eq_some_iff.mp hu).1
      simpa using this
    refine wpAny_pyNext_enum_itemD (Draws.tuple (prog := X.prog) (w := X.w) (A := X.A.in1) (I.ok.hd hc) it a hai its.toArray) he ⟨hit, p'⟩ hlt hne (by simp [hne, hea]) fun x' h' tk hP ho hit' hT hsz hk => ?_
    have hP' : its.toArray[i]? = some x' := hP
    have ex : x' = u := by
      rw [List.getElem?_toArray] at hP'
      rw [hu] at hP'
      exact (Option.some.inj hP').symm
    subst ex
    refine ⟨_, rfl, wpAny_letOwnedTupleGo_enum (s := { s with heap := h', toks := tk + 1 }) ho fun h'' he' sb => ?_⟩
    have hT2 : h''.get? s.heap.objs.size = some { cls := .type "tuple", data := .seq #[.int i tk, x'] } := (sb.2 _ (Nat.ne_of_gt hel)).trans hT
    have new : ObjOk X.prog X.w (upd H s.heap.objs.size (.tup [.int (i : Nat), x])) h'' s.heap.objs.size (.tup [.int (i : Nat), x]) :=
      ⟨by show 2 ≤ sizeLine; decide, [.int i tk, x'], .cons ⟨_, rfl⟩ (.cons ru .nil), ⟨_, hT2, rfl, _, rfl⟩⟩
    have I1 : Inv X pins σ (upd H s.heap.objs.size (.tup [.int (i : Nat), x])) { s with heap := h'', toks := tk + 1 } :=
      I.turnedNew (ch := [e, it]) (fun b ob hb q => (sb.2 b (fun z => hb (by simp [z]))).trans (hk b ob (fun z => hb (by simp [z])) (fun z => hb (by simp [z])) q)) hf (Nat.le_refl _) new
    refine ⟨.ref s.heap.objs.size, _, I1, rfl, ⟨_, x, rfl, I.hok.fresh (Nat.le_refl _), rfl, fun ys hy => by rw [I.tuple_inj hy hq]; exact hx⟩, ⟨⟨x', ?_⟩, hit'.1.at fun o q => (sb.2 it (Ne.symm hne)).trans q, hne⟩, fun b hb => ?_⟩
    · have e1 : ((i + 1 : Nat) : Int) = (i : Int) + 1 := by omega
      rw [e1]; exact he'
    · have hb' : b < s.heap.objs.size := by
        have e' : b = e ∨ b = it := by simpa using hb
        rcases e' with z | z
        · rw [z]; exact hel
        · rw [z]; exact hil
      rw [upd_ne (Nat.ne_of_lt hb')]
      exact (hf b hb).1
  done := by
    intro X hP hw hK hc i pins s σ H E I hf st hg
    subst hP hw hK
    obtain ⟨⟨old, he⟩, hit, hne⟩ := st
    obtain ⟨xs, hq, hx⟩ := hg
    obtain ⟨its, rv, p, hz⟩ := I.tuple hq
    have p' : s.heap.IsTuple a its.toArray := p
    obtain ⟨f0, f1, f2, f3, f4, f5⟩ := hf it (by simp)
    have hl := rv.length
    have hi : i = its.toArray.size := by simp; omega
    exact wpAny_pyNext_enum_endD (Draws.tuple (prog := X.prog) (w := X.w) (A := X.A.in1) (I.ok.hd hc) it a (tup_ne p' hit) its.toArray) he ⟨hi ▸ hit, p'⟩ fun h' eb => ⟨rfl, I.turned (t' := s.toks) (fun b o hb q => eb b o hb q) f0 f1 f3 f4 f5⟩
  self := fun A i s Q E st h => let ⟨⟨_, he⟩, _⟩ := st; wpAny_pyIter_enum he h
def iEnumA (K : PySem.W.Frag) (ta : TA) : TI := fun σ H R => ta σ H fun vs H1 => ∃ a xs, vs = [.ref a] ∧ ((SqL K H1 a xs ∧ R (Ite K a) H1) ∨ (SqT K H1 a xs ∧ R (IteT K a) H1))
theorem pi_enumA {X : Cx} {e : Expr} {ta : TA} {p pos tpos : Pos} {elts : List Expr} {kk : Nat} (hg : Gl X "enumerate") (hm : X.mg "enumerate" = none) (ha : PA X [e] ta) (hs : starEach [e] X.env = [(false, eval e X.env)] := by rfl) :
    PI X (.Tuple elts kk tpos) (.Call (.Name "enumerate" p) [e] [] pos) (iEnumA X.K ta) := by
  refine ⟨fun pins s σ H R I h => ?_⟩
  refine Call_ (ld_blt I hg hm boot_enumerate (PyProof.Rows.callWith_type1 (thn (ha.run pos pins s σ H _ I h) fun us s1 ⟨vs, H1, I1, r1, q1⟩ => ?_) hs rfl))
  obtain ⟨a, xs, ex, q1⟩ := q1
  subst ex
  cases r1 with
  | cons r rr =>
    cases rr
    cases r
    have fre : ∀ b, b ∈ [s1.heap.objs.size + 1, s1.heap.objs.size] → FpOk X pins H1 b := fun b hb => by
      have e' : b = s1.heap.objs.size + 1 ∨ b = s1.heap.objs.size := by simpa using hb
      have hle : s1.heap.objs.size ≤ b := by
        rcases e' with z | z
        · rw [z]; exact Nat.le_add_right _ _
        · rw [z]; exact Nat.le_refl _
      exact I1.fpOk hle (I1.hok.fresh hle)
    rcases q1 with ⟨hq, q⟩ | ⟨hq, q⟩
    · obtain ⟨its, rv, p', hz⟩ := I1.list hq
      refine call_enumerate_list p'.isList fun h' he hit hsz hk => wpAny_pyIter_enum he ?_
      have I2 : Inv X pins σ H1 { s1 with heap := h' } := I1.kept (t' := s1.toks) hk
      exact ⟨s1.heap.objs.size + 1, [s1.heap.objs.size + 1, s1.heap.objs.size], _, _, H1, rfl, I2, turn_enum a (s1.heap.objs.size + 1) s1.heap.objs.size, ⟨⟨.none, he⟩, hit, Nat.succ_ne_self _⟩, fre, q⟩
    · obtain ⟨its, rv, p', hz⟩ := I1.tuple hq
      refine call_enumerate_tuple (show s1.heap.IsTuple a its.toArray from p') fun h' he hit hsz hk => wpAny_pyIter_enum he ?_
      have I2 : Inv X pins σ H1 { s1 with heap := h' } := I1.kept (t' := s1.toks) hk
      exact ⟨s1.heap.objs.size + 1, [s1.heap.objs.size + 1, s1.heap.objs.size], _, _, H1, rfl, I2, turn_enumT a (s1.heap.objs.size + 1) s1.heap.objs.size, ⟨⟨.none, he⟩, hit, Nat.succ_ne_self _⟩, fre, q⟩
/-- a list, a tuple or a text walked -/
def iAny (K : PySem.W.Frag) (tl : TE) : TI := fun σ H R => tl σ H fun x H1 => (∃ a, x = .ref a ∧ (∃ xs, SqL K H1 a xs) ∧ R (Itl K a) H1) ∨ (∃ a, x = .ref a ∧ (∃ xs, SqT K H1 a xs) ∧ R (Itt K a) H1) ∨ (∃ z, x = .str z ∧ R (Its z) H1)
def tK (x : V) : TE := fun _ H Q => Q x H
theorem pi_any {X : Cx} {tg l : Expr} {tl : TE} (hl : PE X l tl) : PI X tg l (iAny X.K tl) := by
  refine ⟨fun pins s σ H R I h => ?_⟩
  refine thn (hl.run pins s σ H _ I h) fun v s1 ⟨x, H1, I1, r1, q1⟩ => ?_
  rcases q1 with ⟨a, e, ⟨xs, hq⟩, q⟩ | ⟨a, e, ⟨xs, hq⟩, q⟩ | ⟨z, e, q⟩
  · subst e
    cases r1
    obtain ⟨its, rv, p, hz⟩ := I1.list hq
    refine wpAny_pyIter_list p.isList ?_
    refine ⟨s1.heap.objs.size, [s1.heap.objs.size], _, _, H1, rfl, I1.kept (t' := s1.toks) fun b o e => Heap.get?_push_of_some _ e, turn_list a _, ⟨_, Heap.get?_push_size _ rfl, rfl, rfl⟩, fun b hb => ?_, q⟩
    have e : b = s1.heap.objs.size := by simpa using hb
    subst e
    exact I1.fpOk (Nat.le_refl _) (I1.hok.fresh (Nat.le_refl _))
  · subst e
    cases r1
    obtain ⟨its, rv, p, hz⟩ := I1.tuple hq
    refine wpAny_pyIter_tuple (show s1.heap.IsTuple a its.toArray from p) ?_
    refine ⟨s1.heap.objs.size, [s1.heap.objs.size], _, _, H1, rfl, I1.kept (t' := s1.toks) fun b o e => Heap.get?_push_of_some _ e, turn_tuple a _, ⟨_, Heap.get?_push_size _ rfl, rfl, rfl⟩, fun b hb => ?_, q⟩
    have e : b = s1.heap.objs.size := by simpa using hb
    subst e
    exact I1.fpOk (Nat.le_refl _) (I1.hok.fresh (Nat.le_refl _))
  · have h2 : wpAny (model X.prog X.w) X.A (eval l X.env) (fun v s₁ => wpAny (model X.prog X.w) X.A (pyIter v) (PIE X pins σ tg R) X.xe s₁) X.xe s → True := fun _ => trivial
    subst e
    obtain ⟨t, rfl⟩ := r1
    cases ha : z.cps.all (· < 128)
    · refine wpAny_pyIter_wide ha ?_
      refine ⟨s1.heap.objs.size, [s1.heap.objs.size], _, _, H1, rfl, I1.kept (t' := s1.toks) fun b o e => Heap.get?_push_of_some _ e, turn_str s1.heap.objs.size z t "str_iterator" (.inr rfl), ⟨_, Heap.get?_push_size _ rfl, rfl, rfl⟩, fun b hb => ?_, q⟩
      have e : b = s1.heap.objs.size := by simpa using hb
      subst e
      exact I1.fpOk (Nat.le_refl _) (I1.hok.fresh (Nat.le_refl _))
    · refine wpAny_pyIter_ascii ha ?_
      refine ⟨s1.heap.objs.size, [s1.heap.objs.size], _, _, H1, rfl, I1.kept (t' := s1.toks) fun b o e => Heap.get?_push_of_some _ e, turn_str s1.heap.objs.size z t "str_ascii_iterator" (.inl rfl), ⟨_, Heap.get?_push_size _ rfl, rfl, rfl⟩, fun b hb => ?_, q⟩
      have e : b = s1.heap.objs.size := by simpa using hb
      subst e
      exact I1.fpOk (Nat.le_refl _) (I1.hok.fresh (Nat.le_refl _))
end DLE
/-! DLQ: walks, statements, calls, defs. -/
namespace DL
open PySem PySem.Spec PyProof.Rows L2

section
variable {K : Fg} {H : Hp} {M : Mem}
/-! ### what is walked -/
theorem gives_list {a : Addr} {vs : List V} {ds : List D} (sq : ∀ H' M', Fr H M H' M' → SqL K.K H' a vs) (r : Reps K H M ds vs) : Gives K (Itl K.K a) ds H M where
  go := fun i H' M' f hi => ⟨vs, vs[i]'(by rw [← r.length]; exact hi), sq H' M' f, by simp⟩
  stop := fun H' M' f => ⟨vs, sq H' M' f, by rw [r.length]; exact Nat.le_refl _⟩
  yld := fun P' hP i H' M' x H2 f m y d e => by
    obtain ⟨e2, y⟩ := y
    subst e2
    obtain ⟨v, hv, rv⟩ := r.get e
    have := y vs (sq _ M' f)
    rw [hv] at this
    cases this
    exact ⟨Fr.refl _ _, m, (rv.hides hP).mono f⟩
theorem gives_tup {a : Addr} {vs : List V} {ds : List D} (sq : ∀ H' M', Fr H M H' M' → SqT K.K H' a vs) (r : Reps K H M ds vs) : Gives K (Itt K.K a) ds H M where
  go := fun i H' M' f hi => ⟨vs, vs[i]'(by rw [← r.length]; exact hi), sq H' M' f, by simp⟩
  stop := fun H' M' f => ⟨vs, sq H' M' f, by rw [r.length]; exact Nat.le_refl _⟩
  yld := fun P' hP i H' M' x H2 f m y d e => by
    obtain ⟨e2, y⟩ := y
    subst e2
    obtain ⟨v, hv, rv⟩ := r.get e
    have := y vs (sq _ M' f)
    rw [hv] at this
    cases this
    exact ⟨Fr.refl _ _, m, (rv.hides hP).mono f⟩
theorem chars_get {z : Str} {i : Nat} {d : D} (e : (chars z)[i]? = some d) : ∃ c, z.cps[i]? = some c ∧ d = .str ⟨#[c]⟩ := by
  unfold chars at e
  rw [List.getElem?_map] at e
  cases q : z.cps.toList[i]? with
  | none => rw [q] at e; cases e
  | some c =>
    rw [q] at e
    cases e
    exact ⟨c, by rw [← Array.getElem?_toList]; exact q, rfl⟩
theorem gives_str {z : Str} : Gives K (Its z) (chars z) H M where
  go := fun i H' M' f hi => by
    have : (chars z).length = z.cps.size := by unfold chars; simp
    show i < z.cps.size
    omega
  stop := fun H' M' f => by
    show z.cps.size ≤ (chars z).length
    unfold chars; simp
  yld := fun P' hP i H' M' x H2 f m y d e => by
    obtain ⟨e2, c, hc, ex⟩ := y
    subst e2 ex
    obtain ⟨c', hc', rfl⟩ := chars_get e
    rw [hc] at hc'
    cases hc'
    exact ⟨Fr.refl _ _, m, rfl⟩
theorem gives_range {n : Nat} : Gives K (Itr 0 n) (upTo n) H M where
  go := fun i H' M' f hi => by
    show i < n
    simpa [upTo] using hi
  stop := fun H' M' f => by
    show n ≤ (upTo n).length
    simp [upTo]
  yld := fun P' hP i H' M' x H2 f m y d e => by
    obtain ⟨e2, ex⟩ := y
    subst e2 ex
    unfold upTo at e
    rw [List.getElem?_map] at e
    cases q : (List.range n)[i]? with
    | none => rw [q] at e; cases e
    | some j =>
      rw [q] at e
      cases e
      have hj : i < n ∧ j = i := by
        rw [List.getElem?_eq_some_iff] at q
        obtain ⟨h1, h2⟩ := q
        simp at h1 h2
        exact ⟨h1, h2.symm⟩
      refine ⟨Fr.refl _ _, m, ?_⟩
      show V.int (0 + (i : Int)) = V.int (j : Int)
      rw [hj.2, Int.zero_add]
theorem enumD_length : ∀ (n : Nat) (ds : List D), (enumD n ds).length = ds.length
  | _, [] => rfl
  | n, _ :: ds => by simp only [enumD, List.length_cons, enumD_length (n + 1) ds]
theorem enumD_get : ∀ (n : Nat) (ds : List D) (i : Nat) (d : D), (enumD n ds)[i]? = some d → ∃ e, ds[i]? = some e ∧ d = .tup [.int ((n + i : Nat) : Int), e]
  | _, [], _, _, h => by simp [enumD] at h
  | n, x :: ds, 0, d, h => by
    simp only [enumD, List.getElem?_cons_zero, Option.some.injEq] at h
    exact ⟨x, rfl, h.symm⟩
  | n, x :: ds, i + 1, d, h => by
    simp only [enumD, List.getElem?_cons_succ] at h
    obtain ⟨e, h1, h2⟩ := enumD_get (n + 1) ds i d h
    refine ⟨e, by rw [List.getElem?_cons_succ]; exact h1, ?_⟩
    rw [h2, show n + 1 + i = n + (i + 1) by omega]
theorem pair_new {H' H2 : Hp} {M' : Mem} {T : Addr} {x y : V} {d e : D} (m : MRep K H' M') (hT : H' T = none) (rx : Rep K H' M' d x) (ry : Rep K H' M' e y) (e2 : H2 = upd H' T (.tup [x, y])) :
    Fr H' M' H2 M' ∧ MRep K H2 M' ∧ Rep K H2 M' (.tup [d, e]) (.ref T) := by
  subst e2
  exact ⟨Fr.new hT, m.new hT, rep_newT m hT ⟨x, [y], rfl, rx, y, [], rfl, ry, rfl⟩⟩
theorem gives_enumL {a : Addr} {vs : List V} {ds : List D} (sq : ∀ H' M', Fr H M H' M' → SqL K.K H' a vs) (r : Reps K H M ds vs) : Gives K (Ite K.K a) (enumD 0 ds) H M where
  go := fun i H' M' f hi => ⟨vs, vs[i]'(by rw [← r.length, ← enumD_length 0]; exact hi), sq H' M' f, by simp⟩
  stop := fun H' M' f => ⟨vs, sq H' M' f, by rw [enumD_length, r.length]; exact Nat.le_refl _⟩
  yld := fun P' hP i H' M' x H2 f m y d e => by
    obtain ⟨T, z, rfl, hT, e2, y⟩ := y
    obtain ⟨e', h1, rfl⟩ := enumD_get 0 ds i d e
    obtain ⟨v, hv, rv⟩ := r.get h1
    have := y vs (sq _ M' f)
    rw [hv] at this
    cases this
    refine pair_new m hT ?_ ((rv.hides hP).mono f) e2
    show V.int (i : Int) = V.int ((0 + i : Nat) : Int)
    rw [Nat.zero_add]
theorem gives_enumT {a : Addr} {vs : List V} {ds : List D} (sq : ∀ H' M', Fr H M H' M' → SqT K.K H' a vs) (r : Reps K H M ds vs) : Gives K (DLE.IteT K.K a) (enumD 0 ds) H M where
  go := fun i H' M' f hi => ⟨vs, vs[i]'(by rw [← r.length, ← enumD_length 0]; exact hi), sq H' M' f, by simp⟩
  stop := fun H' M' f => ⟨vs, sq H' M' f, by rw [enumD_length, r.length]⟩
  yld := fun P' hP i H' M' x H2 f m y d e => by
    obtain ⟨T, z, rfl, hT, e2, y⟩ := y
    obtain ⟨e', h1, rfl⟩ := enumD_get 0 ds i d e
    obtain ⟨v, hv, rv⟩ := r.get h1
    have := y vs (sq _ M' f)
    rw [hv] at this
    cases this
    refine pair_new m hT ?_ ((rv.hides hP).mono f) e2
    show V.int (i : Int) = V.int ((0 + i : Nat) : Int)
    rw [Nat.zero_add]
theorem zipD_length : ∀ (ds es : List D), (zipD ds es).length = min ds.length es.length
  | [], _ => by simp [zipD]
  | _ :: _, [] => by simp [zipD]
  | d :: ds, e :: es => by simp only [zipD, List.length_cons, zipD_length ds es]; omega
theorem zipD_get : ∀ (ds es : List D) (i : Nat) (d : D), (zipD ds es)[i]? = some d → ∃ x y, ds[i]? = some x ∧ es[i]? = some y ∧ d = .tup [x, y]
  | [], _, _, _, h => by simp [zipD] at h
  | _ :: _, [], _, _, h => by simp [zipD] at h
  | x :: ds, y :: es, 0, d, h => by
    simp only [zipD, List.getElem?_cons_zero, Option.some.injEq] at h
    exact ⟨x, y, rfl, rfl, h.symm⟩
  | x :: ds, y :: es, i + 1, d, h => by
    simp only [zipD, List.getElem?_cons_succ] at h ⊢
    exact zipD_get ds es i d h
theorem gives_zipL {a b : Addr} {vs ws : List V} {ds es : List D} (sq : ∀ H' M', Fr H M H' M' → SqL K.K H' a vs) (sq2 : ∀ H' M', Fr H M H' M' → SqL K.K H' b ws) (r : Reps K H M ds vs) (r2 : Reps K H M es ws) : Gives K (Itz K.K a b) (zipD ds es) H M where
  go := fun i H' M' f hi => by
    rw [zipD_length, r.length, r2.length] at hi
    exact ⟨vs, ws, vs[i]'(by omega), ws[i]'(by omega), sq H' M' f, sq2 H' M' f, by simp, by simp⟩
  stop := fun H' M' f => ⟨vs, ws, sq H' M' f, sq2 H' M' f, by rw [zipD_length, r.length, r2.length]; omega⟩
  yld := fun P' hP i H' M' x H2 f m y d e => by
    obtain ⟨T, z, z2, rfl, hT, e2, y1, y2⟩ := y
    obtain ⟨u, u2, h1, h2, rfl⟩ := zipD_get ds es i d e
    obtain ⟨v, hv, rv⟩ := r.get h1
    obtain ⟨v2, hv2, rv2⟩ := r2.get h2
    have q1 := y1 vs (sq _ M' f)
    have q2 := y2 ws (sq2 _ M' f)
    rw [hv] at q1
    rw [hv2] at q2
    cases q1
    cases q2
    exact pair_new m hT ((rv.hides hP).mono f) ((rv2.hides hP).mono f) e2
theorem gives_zipT {a b : Addr} {vs ws : List V} {ds es : List D} (sq : ∀ H' M', Fr H M H' M' → SqT K.K H' a vs) (sq2 : ∀ H' M', Fr H M H' M' → SqT K.K H' b ws) (r : Reps K H M ds vs) (r2 : Reps K H M es ws) : Gives K (RZ.ItzT K.K a b) (zipD ds es) H M where
  go := fun i H' M' f hi => by
    rw [zipD_length, r.length, r2.length] at hi
    exact ⟨vs, ws, vs[i]'(by omega), ws[i]'(by omega), sq H' M' f, sq2 H' M' f, by simp, by simp⟩
  stop := fun H' M' f => ⟨vs, ws, sq H' M' f, sq2 H' M' f, by rw [zipD_length, r.length, r2.length]; omega⟩
  yld := fun P' hP i H' M' x H2 f m y d e => by
    obtain ⟨T, z, z2, rfl, hT, e2, y1, y2⟩ := y
    obtain ⟨u, u2, h1, h2, rfl⟩ := zipD_get ds es i d e
    obtain ⟨v, hv, rv⟩ := r.get h1
    obtain ⟨v2, hv2, rv2⟩ := r2.get h2
    have q1 := y1 vs (sq _ M' f)
    have q2 := y2 ws (sq2 _ M' f)
    rw [hv] at q1
    rw [hv2] at q2
    cases q1
    cases q2
    exact pair_new m hT ((rv.hides hP).mono f) ((rv2.hides hP).mono f) e2
theorem lst_sq {a : Addr} {vs : List V} (h : H a = some (.lst vs) ∧ M a = none ∧ ¬ K.P a) : ∀ H' M', Fr H M H' M' → SqL K.K H' a vs := fun H' M' f => .of (f _ _ h.1 h.2.1).1
theorem rol_sq {a : Addr} {vs : List V} (h : TqR K H M a vs) : ∀ H' M', Fr H M H' M' → SqL K.K H' a vs := fun H' M' f => (h.mono f).sq
theorem tup_sq {a : Addr} {vs : List V} (h : TqT K H M a vs) : ∀ H' M', Fr H M H' M' → SqT K.K H' a vs := fun H' M' f => (h.mono f).sq
end
section
variable {K : Fg}
theorem refI_seq {ta : TE} {t : DE} (h : Ref K ta t) : RefI K (DLE.iAny K.K ta) (iSeq t) := fun σ H ρ M R R' s q l =>
  h σ H ρ M _ _ s q fun v H1 d M1 f1 r1 m1 q1 => by
    cases d with
    | tup xs =>
      obtain ⟨a, vs, rfl, h, r⟩ := r1
      exact .inr (.inl ⟨a, rfl, ⟨vs, h.sq⟩, l _ H1 xs M1 f1 m1 (gives_tup (tup_sq h) r) q1⟩)
    | lst xs =>
      obtain ⟨a, vs, rfl, h, r⟩ := r1
      exact .inl ⟨a, rfl, ⟨vs, .of h.1⟩, l _ H1 xs M1 f1 m1 (gives_list (lst_sq h) r) q1⟩
    | rol xs =>
      obtain ⟨a, vs, rfl, h, r⟩ := r1
      exact .inl ⟨a, rfl, ⟨vs, h.sq⟩, l _ H1 xs M1 f1 m1 (gives_list (rol_sq h) r) q1⟩
    | str z =>
      cases r1
      exact .inr (.inr ⟨z, rfl, l _ H1 _ M1 f1 m1 gives_str q1⟩)
    | _ => exact q1.elim
theorem refI_range {ta : TE} {t : DE} (h : Ref K ta t) : RefI K (iRng1 (tCons ta tNil)) (iRange t) := fun σ H ρ M R R' s q l =>
  h σ H ρ M _ _ s q fun v H1 d M1 f1 r1 m1 q1 => by
    cases d with
    | int n =>
      cases r1
      exact ⟨n, rfl, q1.1.1, q1.1.2, l _ H1 _ M1 f1 m1 gives_range q1.2⟩
    | _ => exact q1.elim
theorem refI_enum {ta : TE} {t : DE} (h : Ref K ta t) : RefI K (DLE.iEnumA K.K (tCons ta tNil)) (iEnum t) := fun σ H ρ M R R' s q l =>
  h σ H ρ M _ _ s q fun v H1 d M1 f1 r1 m1 q1 => by
    cases d with
    | tup xs =>
      obtain ⟨a, vs, rfl, h, r⟩ := r1
      exact ⟨a, vs, rfl, .inr ⟨h.sq, l _ H1 _ M1 f1 m1 (gives_enumT (tup_sq h) r) q1⟩⟩
    | lst xs =>
      obtain ⟨a, vs, rfl, h, r⟩ := r1
      exact ⟨a, vs, rfl, .inl ⟨.of h.1, l _ H1 _ M1 f1 m1 (gives_enumL (lst_sq h) r) q1⟩⟩
    | rol xs =>
      obtain ⟨a, vs, rfl, h, r⟩ := r1
      exact ⟨a, vs, rfl, .inl ⟨h.sq, l _ H1 _ M1 f1 m1 (gives_enumL (rol_sq h) r) q1⟩⟩
    | _ => exact q1.elim
theorem refI_zip {ta tb : TE} {t u : DE} (h : Ref K ta t) (h' : Ref K tb u) : RefI K (RZ.iZipA K.K (tCons ta (tCons tb tNil))) (iZip t u) := fun σ H ρ M R R' s q l =>
  h σ H ρ M _ _ s q fun v H1 d M1 f1 r1 m1 q1 => h' σ H1 ρ M1 _ _ (s.step f1 m1) q1 fun v2 H2 d2 M2 f2 r2 m2 q2 => by
    have r1 := r1.mono f2
    cases d with
    | tup xs =>
      cases d2 with
      | tup ys =>
        obtain ⟨a, vs, rfl, h, r⟩ := r1
        obtain ⟨b, ws, rfl, h', r'⟩ := r2
        exact ⟨a, b, vs, ws, rfl, .inr ⟨h.sq, h'.sq, l _ H2 _ M2 (f1.trans f2) m2 (gives_zipT (tup_sq h) (tup_sq h') r r') q2⟩⟩
      | _ => exact q2.elim
    | lst xs =>
      cases d2 with
      | lst ys =>
        obtain ⟨a, vs, rfl, h, r⟩ := r1
        obtain ⟨b, ws, rfl, h', r'⟩ := r2
        exact ⟨a, b, vs, ws, rfl, .inl ⟨.of h.1, .of h'.1, l _ H2 _ M2 (f1.trans f2) m2 (gives_zipL (lst_sq h) (lst_sq h') r r') q2⟩⟩
      | _ => exact q2.elim
    | _ => exact q2.elim

/-! ### targets -/
theorem refG_name (i : Nat) : RefG K (L2.gName i) (DL.gName i) := fun v d σ H ρ M Q Q' s r q l => l _ H _ M (Fr.refl H M) (s.set r) q
theorem refGs_nil : RefGs K L2.gNil DL.gNil := fun vs ds σ H ρ M Q Q' s r q l => by
  cases ds with
  | nil => exact ⟨r, l _ H _ M (Fr.refl H M) s q⟩
  | cons _ _ => exact q.elim
theorem refGs_cons {tg : TG} {tgs : TGs} {g : DG} {gs : DGs} (h1 : RefG K tg g) (h2 : RefGs K tgs gs) : RefGs K (L2.gCons tg tgs) (DL.gCons g gs) := fun vs ds σ H ρ M Q Q' s r q l => by
  cases ds with
  | nil => exact q.elim
  | cons d ds =>
    obtain ⟨v, rr, rfl, rv, rs⟩ := r
    exact ⟨v, rr, rfl, h1 v d σ H ρ M _ _ s rv q fun σ1 H1 ρ1 M1 f1 s1 q1 => h2 rr ds σ1 H1 ρ1 M1 _ _ s1 (rs.mono f1) q1 (l.later f1)⟩
theorem refG_tup {tgs : TGs} {gs : DGs} {n : Nat} (hn : ∀ ds ρ M Q, gs ds ρ M Q → ds.length = n) (h : RefGs K tgs gs) : RefG K (L2.gTup K.K n tgs) (DL.gTup gs) := fun v d σ H ρ M Q Q' s r q l => by
  cases d with
  | tup xs =>
    obtain ⟨a, vs, rfl, h1, rr⟩ := r
    exact ⟨a, vs, rfl, h1.sq, by rw [← rr.length]; exact hn _ _ _ _ q, h vs xs σ H ρ M _ _ s rr q l⟩
  | _ => exact q.elim
/-- so many targets -/
def Many (gs : DGs) (n : Nat) : Prop := ∀ ds ρ M Q, gs ds ρ M Q → ds.length = n
theorem many_nil : Many DL.gNil 0 := fun ds ρ M Q q => by
  cases ds with
  | nil => rfl
  | cons _ _ => exact q.elim
theorem refG_sub {to ti : TE} {t u : DE} (h1 : Ref K to t) (h2 : Ref K ti u) : RefG K (L2.gSub to ti rSetL) (DL.gSub t u) := fun v d σ H ρ M Q Q' s r q l =>
  h1 σ H ρ M _ _ s q fun o H1 od M1 f1 r1 m1 q1 => h2 σ H1 ρ M1 _ _ (s.step f1 m1) q1 fun i H2 di M2 f2 r2 m2 q2 => by
    have r1 := r1.mono f2
    cases od with
    | ref a =>
      cases di with
      | int k =>
        cases r1
        cases r2
        cases e : M2 a with
        | none => simp only [e] at q2
        | some mo =>
          cases mo with
          | lst xs =>
            simp only [e] at q2
            cases ej : DL.ixN xs.length k with
            | none => simp only [ej] at q2
            | some j =>
              simp only [ej] at q2
              obtain ⟨vs, hv, rv⟩ := m2.obj a _ e
              refine ⟨a, vs, k, j, rfl, rfl, hv, by rw [← rv.length]; exact ej, ?_⟩
              have r' := r.mono (f1.trans f2)
              have mm := mrep_write (vs := vs.set j v) (ws := vs) m2 e (rv.set j r')
              exact l _ _ _ _ ((f1.trans f2).trans (Fr.write e)) (s.step ((f1.trans f2).trans (Fr.write e)) mm) q2
          | _ => simp only [e] at q2
      | _ => exact q2.elim
    | _ => exact q2.elim
/-! ### statements -/
variable {tt : TT} {b c : DT} {ts us : TS} {t u : DS} {te : TE} {de : DE}
theorem refS_next : RefS K tNext sNext := fun σ H ρ M E E' s q l => l.nx σ H ρ M (Fr.refl H M) s q
theorem refS_break : RefS K tBreak sBreak := fun σ H ρ M E E' s q l => l.bk σ H ρ M (Fr.refl H M) s q
theorem refS_cont : RefS K tCont sCont := fun σ H ρ M E E' s q l => l.ct σ H ρ M (Fr.refl H M) s q
theorem refS_seq (h1 : RefS K ts t) (h2 : RefS K us u) : RefS K (tSeq ts us) (sSeq t u) := fun σ H ρ M E E' s q l =>
  h1 σ H ρ M _ _ s q ⟨fun σ1 H1 ρ1 M1 f1 s1 q1 => h2 σ1 H1 ρ1 M1 _ _ s1 q1 (l.later f1), l.rt, l.bk, l.ct⟩
theorem refS_expr (h : Ref K te de) : RefS K (tDrop te) (sExpr de) := fun σ H ρ M E E' s q l =>
  h σ H ρ M _ _ s q fun v H1 d M1 f1 r1 m1 q1 => l.nx σ H1 ρ M1 f1 (s.step f1 m1) q1
theorem refS_ret (h : Ref K te de) : RefS K (tRet te) (sRet de) := fun σ H ρ M E E' s q l => h σ H ρ M _ _ s q l.rt
theorem refS_retN : RefS K tRetN sRetN := fun σ H ρ M E E' s q l => l.rt .non H .non M (Fr.refl H M) rfl s.mem q
theorem refS_if (h : RefT K tt b) (h1 : RefS K ts t) (h2 : RefS K us u) : RefS K (tIfS tt ts us) (sIf b t u) := fun σ H ρ M E E' s q l =>
  h σ H ρ M _ _ s q fun k H1 M1 f1 m1 q1 => by
    cases k with
    | true =>
      rw [if_pos rfl] at q1 ⊢
      exact h1 σ H1 ρ M1 _ _ (s.step f1 m1) q1 (l.later f1)
    | false =>
      rw [if_neg Bool.false_ne_true] at q1 ⊢
      exact h2 σ H1 ρ M1 _ _ (s.step f1 m1) q1 (l.later f1)
theorem refS_asg {tg : TG} {g : DG} (h : Ref K te de) (hg : RefG K tg g) : RefS K (tAsg te tg) (sAsg de g) := fun σ H ρ M E E' s q l =>
  h σ H ρ M _ _ s q fun v H1 d M1 f1 r1 m1 q1 => hg v d σ H1 ρ M1 _ _ (s.step f1 m1) r1 q1 (l.nx.later f1)
theorem refS_aug {i : Nat} {r : TIp} {rd : DL.R2} (hr : RefR K r rd) (h : Ref K te de) : RefS K (tAug i te r) (sAug i de rd) := fun σ H ρ M E E' s q l => by
  unfold sAug at q
  split at q
  · rename_i d e
    obtain ⟨v, hv, rv⟩ := s.env i d e
    refine ⟨v, hv, h σ H ρ M _ _ s q fun v2 H1 d2 M1 f1 r1 m1 q1 => hr v v2 H1 M1 d d2 _ _ (rv.mono f1) r1 m1 q1 fun z H2 dz M2 f2 rz m2 q2 => ?_⟩
    exact l.nx _ H2 _ M2 (f1.trans f2) ((s.step (f1.trans f2) m2).set rz) q2
  · exact q.elim
theorem drop_cons {α : Type} {xs : List α} {i : Nat} (h : i < xs.length) : ∃ x, xs[i]? = some x ∧ xs.drop i = x :: xs.drop (i + 1) :=
  ⟨xs[i], by simp [h], List.drop_eq_getElem_cons h⟩
theorem refS_for {wi : TI} {ti : DI} {tg : TG} {g : DG} (hi : RefI K wi ti) (hg : RefG K tg g) (hb : RefS K ts t) : RefS K (tFor wi tg ts) (sFor ti g t) := fun σ H ρ M E E' s q l =>
  hi σ H ρ M _ _ s q fun J H1 ds M1 f1 m1 gv q1 => by
    refine ⟨fun i m σ' H' => ∃ ρ' M', Fr H1 M1 H' M' ∧ SRep K σ' H' ρ' M' ∧ i ≤ ds.length ∧ m = ds.length - i ∧ sLoop g t (ds.drop i) E ρ' M', ⟨ds.length, ρ, M1, Fr.refl _ _, s.step f1 m1, Nat.zero_le _, by simp, q1⟩, ?_⟩
    rintro i m σ' H' ⟨ρ', M', f, s', hi', rfl, qq⟩
    by_cases hlt : i < ds.length
    · obtain ⟨d, hd, hdr⟩ := drop_cons hlt
      rw [hdr] at qq
      refine .inr ⟨gv.go i H' M' f hlt, fun σ2 H2 => ∃ ρ2 M2, Fr H1 M1 H2 M2 ∧ SRep K σ2 H2 ρ2 M2 ∧ sLoop g t (ds.drop (i + 1)) E ρ2 M2, fun σ2 H2 ⟨ρ2, M2, f2, s2, q2⟩ => ⟨ds.length - (i + 1), by omega, ρ2, M2, f2, s2, hlt, rfl, q2⟩, fun x H2 y => ?_⟩
      obtain ⟨f2, m2, r2⟩ := gv.yld K.P (fun _ _ _ z => z) i H' M' x H2 f s'.mem y d hd
      refine hg x d σ' H2 ρ' M' _ _ (s'.step f2 m2) r2 qq fun σ3 H3 ρ3 M3 f3 s3 q3 => ?_
      have F3 : Fr H1 M1 H3 M3 := (f.trans f2).trans f3
      have nxt : LiftS K H3 M3 (sLoop g t (ds.drop (i + 1)) E) (fun σ2 H2 => ∃ ρ2 M2, Fr H1 M1 H2 M2 ∧ SRep K σ2 H2 ρ2 M2 ∧ sLoop g t (ds.drop (i + 1)) E ρ2 M2) :=
        fun σ4 H4 ρ4 M4 f4 s4 q4 => ⟨ρ4, M4, F3.trans f4, s4, q4⟩
      exact hb σ3 H3 ρ3 M3 _ _ s3 q3 ⟨nxt, l.rt.later (f1.trans F3), l.nx.later (f1.trans F3), nxt⟩
    · have e : i = ds.length := by omega
      subst e
      rw [List.drop_length] at qq
      exact .inl ⟨gv.stop H' M' f, l.nx σ' H' ρ' M' (f1.trans f) s' qq⟩
theorem refS_while (hc : RefT K tt b) (hb : RefS K ts t) : RefS K (tWhile tt ts) (sWhile b t) := fun σ H ρ M E E' s q l => by
  obtain ⟨n, q⟩ := q
  refine ⟨fun m σ' H' => ∃ ρ' M', Fr H M H' M' ∧ SRep K σ' H' ρ' M' ∧ sWhileN b t m E ρ' M', ⟨n, ρ, M, Fr.refl _ _, s, q⟩, ?_⟩
  rintro m σ' H' ⟨ρ', M', f, s', qq⟩
  cases m with
  | zero => exact qq.elim
  | succ m =>
    refine hc σ' H' ρ' M' _ _ s' qq fun k H1 M1 f1 m1 q1 => ?_
    cases k with
    | true =>
      rw [if_pos rfl] at q1 ⊢
      refine ⟨fun σ2 H2 => ∃ ρ2 M2, Fr H M H2 M2 ∧ SRep K σ2 H2 ρ2 M2 ∧ sWhileN b t m E ρ2 M2, fun σ2 H2 ⟨ρ2, M2, f2, s2, q2⟩ => ⟨m, Nat.lt_succ_self m, ρ2, M2, f2, s2, q2⟩, ?_⟩
      have nxt : LiftS K H1 M1 (sWhileN b t m E) (fun σ2 H2 => ∃ ρ2 M2, Fr H M H2 M2 ∧ SRep K σ2 H2 ρ2 M2 ∧ sWhileN b t m E ρ2 M2) :=
        fun σ4 H4 ρ4 M4 f4 s4 q4 => ⟨ρ4, M4, (f.trans f1).trans f4, s4, q4⟩
      exact hb σ' H1 ρ' M1 _ _ (s'.step f1 m1) q1 ⟨nxt, l.rt.later (f.trans f1), l.nx.later (f.trans f1), nxt⟩
    | false =>
      rw [if_neg Bool.false_ne_true] at q1 ⊢
      exact l.nx σ' H1 ρ' M1 (f.trans f1) (s'.step f1 m1) q1
/-! ### comprehensions -/
/-- a target that stores into the slots vs alone -/
def Own (vs : List Nat) (g : TG) : Prop := ∀ x σ H Q Q', (∀ σ2 H2, L2.wipe σ2 vs = L2.wipe σ vs → Q σ2 H2 → Q' σ2 H2) → g x σ H Q → g x σ H Q'
def Owns (vs : List Nat) (g : TGs) : Prop := ∀ xs σ H Q Q', (∀ σ2 H2, L2.wipe σ2 vs = L2.wipe σ vs → Q σ2 H2 → Q' σ2 H2) → g xs σ H Q → g xs σ H Q'
theorem wipe_set_not {σ : St} {i : Nat} {v : Option V} : ∀ {vs : List Nat}, i ∉ vs → L2.wipe (σ.set i v) vs = (L2.wipe σ vs).set i v
  | [], _ => rfl
  | w :: vs, h => by
    simp only [List.mem_cons, not_or] at h
    unfold L2.wipe
    rw [wipe_set_not h.2, List.set_comm _ _ h.1]
theorem wipe_set {σ : St} {i : Nat} {v : Option V} : ∀ {vs : List Nat}, i ∈ vs → L2.wipe (σ.set i v) vs = L2.wipe σ vs
  | w :: vs, h => by
    unfold L2.wipe
    by_cases c : i ∈ vs
    · rw [wipe_set c]
    · have e : i = w := (List.mem_cons.mp h).resolve_right c
      subst e
      rw [wipe_set_not c, List.set_set]
theorem wipe_wipe {σ : St} : ∀ {vs ws : List Nat}, (∀ i ∈ vs, i ∈ ws) → L2.wipe (L2.wipe σ vs) ws = L2.wipe σ ws
  | [], ws, _ => rfl
  | v :: vs, ws, h => by
    show L2.wipe ((L2.wipe σ vs).set v none) ws = L2.wipe σ ws
    rw [wipe_set (h v (by simp))]
    exact wipe_wipe fun i hi => h i (List.mem_cons_of_mem _ hi)
theorem own_name {vs : List Nat} {i : Nat} (h : i ∈ vs) : Own vs (L2.gName i) := fun x σ H Q Q' f q => f _ _ (wipe_set h) q
theorem owns_nil {vs : List Nat} : Owns vs L2.gNil := fun xs σ H Q Q' f q => ⟨q.1, f _ _ rfl q.2⟩
theorem owns_cons {vs : List Nat} {g : TG} {gs : TGs} (h1 : Own vs g) (h2 : Owns vs gs) : Owns vs (L2.gCons g gs) := fun xs σ H Q Q' f q => by
  obtain ⟨v, r, e, q⟩ := q
  exact ⟨v, r, e, h1 v σ H _ _ (fun σ2 H2 e2 q2 => h2 r σ2 H2 _ _ (fun σ3 H3 e3 q3 => f σ3 H3 (e3.trans e2) q3) q2) q⟩
theorem own_tup {K0 : PySem.W.Frag} {vs : List Nat} {n : Nat} {gs : TGs} (h : Owns vs gs) : Own vs (L2.gTup K0 n gs) := fun x σ H Q Q' f q => by
  obtain ⟨a, xs, e, h1, h2, q⟩ := q
  exact ⟨a, xs, e, h1, h2, h xs σ H _ _ f q⟩
theorem ref_comp {wi : TI} {ti : DI} {tg : TG} {g : DG} {vs : List Nat} (hi : RefI K wi ti) (hg : ∀ P, RefG ⟨K.K, P⟩ tg g) (ho : Own vs tg) (ht : ∀ P, RefT ⟨K.K, P⟩ tt b) (he : ∀ P, Ref ⟨K.K, P⟩ te de) : Ref K (tLc wi tg tt te vs) (dComp ti g b de vs) := fun σ H ρ M Q Q' s q l =>
  hi σ H ρ M _ _ s q fun J H1 ds M1 f1 m1 gv q1 D hD => by
    obtain ⟨hz, q1⟩ := q1
    have mD : M1 D = none := m1.free hD
    have hid := hide_new (K := K) hD
    have s1 : SRep (K.hide D) σ H1 ρ M1 → True := fun _ => trivial
    refine ⟨fun i m H' => ∃ M' acc accV, Fr H1 M1 H' M' ∧ MRep (K.hide D) H' M' ∧ H' D = some (.lst accV) ∧ M' D = none ∧ Reps (K.hide D) H' M' acc accV ∧ acc.length ≤ i ∧ i ≤ ds.length ∧ m = ds.length - i ∧ dCompL g b de (DL.wipe ρ vs) (ds.drop i) acc M' Q,
      ⟨ds.length, M1, [], [], Fr.new hD, m1.hide hD, upd_same, mD, rfl, Nat.zero_le _, Nat.zero_le _, by simp, q1⟩, ?_⟩
    rintro i m H' ⟨M', acc, accV, f, m', hD', mD', ra, ha, hi', rfl, qq⟩
    by_cases hlt : i < ds.length
    · obtain ⟨d, hd, hdr⟩ := drop_cons hlt
      rw [hdr] at qq
      refine .inr ⟨gv.go i H' M' f hlt, fun H2 => ∃ M2 acc2 accV2, Fr H1 M1 H2 M2 ∧ MRep (K.hide D) H2 M2 ∧ H2 D = some (.lst accV2) ∧ M2 D = none ∧ Reps (K.hide D) H2 M2 acc2 accV2 ∧ acc2.length ≤ i + 1 ∧ dCompL g b de (DL.wipe ρ vs) (ds.drop (i + 1)) acc2 M2 Q,
        fun H2 ⟨M2, acc2, accV2, z1, z2, z3, z4, z5, z6, z7⟩ => ⟨ds.length - (i + 1), by omega, M2, acc2, accV2, z1, z2, z3, z4, z5, z6, hlt, rfl, z7⟩, fun x H2 y => ?_⟩
      obtain ⟨f2, m2, r2⟩ := gv.yld (K.hide D).P hid i H' M' x H2 f m' y d hd
      have s2 : SRep (K.hide D) (L2.wipe σ vs) H2 (DL.wipe ρ vs) M' := by
        have z : SRep (K.hide D) σ H2 ρ M' := ⟨s.len, fun i d e => let ⟨v, q, r⟩ := s.env i d e; ⟨v, q, ((r.mono f1).hides hid).mono (f.trans f2)⟩, m2⟩
        exact z.wipe vs
      refine ho x _ H2 _ _ (fun σ3 H3 e3 q3 => ⟨by rw [e3]; exact wipe_wipe fun _ h => h, q3⟩) (hg _ x d _ H2 _ M' _ _ s2 r2 qq fun σ3 H3 ρ3 M3 f3 s3 q3 => ?_)
      refine ht _ σ3 H3 ρ3 M3 _ _ s3 q3 fun k H4 M4 f4 m4 q4 => ?_
      have F4 : Fr H1 M1 H4 M4 := ((f.trans f2).trans f3).trans f4
      have F4' : Fr H' M' H4 M4 := (f2.trans f3).trans f4
      cases k with
      | true =>
        rw [if_pos rfl] at q4 ⊢
        refine he _ σ3 H4 ρ3 M4 _ _ (s3.step f4 m4) q4 fun v H5 dv M5 f5 r5 m5 q5 => ?_
        have F5 : Fr H1 M1 H5 M5 := F4.trans f5
        have F5' : Fr H' M' H5 M5 := F4'.trans f5
        obtain ⟨hD5, mD5⟩ := F5' D _ hD' mD'
        refine ⟨accV, hD5, szLt (by rw [← ra.length]; omega), M5, acc ++ [dv], accV ++ [v], fun a o e w => ?_, MRep.priv (K := K.hide D) m5 (.inr rfl), upd_same, mD5, Reps.priv (K := K.hide D) (.inr rfl) ((ra.mono F5').snoc r5), by rw [List.length_append]; show acc.length + 1 ≤ i + 1; omega, q5⟩
        have ne := ne_of_none e hD
        obtain ⟨z1, z2⟩ := F5 a o e w
        exact ⟨by rw [upd_ne ne]; exact z1, z2⟩
      | false =>
        rw [if_neg Bool.false_ne_true] at q4 ⊢
        obtain ⟨hD4, mD4⟩ := F4' D _ hD' mD'
        exact ⟨M4, acc, accV, F4, m4, hD4, mD4, ra.mono F4', by omega, q4⟩
    · have e : i = ds.length := by omega
      subst e
      rw [List.drop_length] at qq
      refine .inl ⟨gv.stop H' M' f, ?_⟩
      exact l _ H' (.lst acc) M' (f1.trans f) ⟨D, accV, rfl, ⟨hD', mD', m1.nprv hD⟩, ra.bare⟩ m'.bare qq
end
end DL
/-! DLX: the rules by syntax. -/
namespace DL
open PySem PySem.Spec PyProof.Rows L2

section
variable {X : Cx} {pos p : Pos} {a b c e o : Expr} {es : List Expr} {ta tb tc te : TE} {t u w : DE} {tA : TA} {dA' : DA} {tt tu : TT} {k : Nat}
/-! ### names, constants, displays -/
theorem re_v (i : Nat) {x : Str} (hN : X.N[i]? = some x := by rfl) (hv : Vis X.env.scope x := by first | exact Or.inl rfl | exact Or.inr (Or.inl rfl) | exact Or.inr (Or.inr rfl)) (hd : (x == ("__debug__" : Str)) = false := by decide)
    (hcd : (x == ("__classdict__" : Str)) = false := by decide) : RE X (.Name x pos) (tVar i) (dV i) := ⟨pv i hN hv hd hcd, fun P => ref_var i⟩
theorem re_int {i : Int} {j : Nat} : RE X (.Constant (.int i) j pos) (tC (.int i)) (dC (.int i)) := ⟨pe_int, fun P => ref_c fun _ _ => rfl⟩
theorem re_str {x : Str} {j : Nat} : RE X (.Constant (.str x) j pos) (tC (.str x)) (dC (.str x)) := ⟨pe_str, fun P => ref_c fun _ _ => rfl⟩
theorem re_bl {x : Bool} {j : Nat} : RE X (.Constant (.bool x) j pos) (tC (.bl x)) (dC (.bl x)) := ⟨pe_bl, fun P => ref_c fun _ _ => rfl⟩
theorem re_non {j : Nat} : RE X (.Constant .none j pos) (tC .non) (dC .non) := ⟨pe_non, fun P => ref_c fun _ _ => rfl⟩
/-- a module's constant -/
def Glob (K : PySem.W.Frag) (mg : Str → Option Value) (x : Str) (v : V) (d : D) : Prop := ∃ u, mg x = some u ∧ RelV v u ∧ ∀ P H M, Rep ⟨K, P⟩ H M d v
theorem re_glob {x : Str} {v : V} {d : D} (hg : Gl X x) (h : Glob X.K X.mg x v d) (hd : (x == ("__debug__" : Str)) = false := by decide) : RE X (.Name x pos) (tC v) (dC d) := by
  obtain ⟨u, h1, h2, h3⟩ := h
  exact ⟨pe_glob hg h1 h2 hd, fun P => ref_c (h3 P)⟩
theorem ra_nil : RA X [] tNil dA0 := ⟨pa_nil, fun P => refA_nil⟩
theorem ra_cons (h : RE X e te t) (h2 : RA X es tA dA') (hs : starEach (e :: es) X.env = (false, eval e X.env) :: starEach es X.env := by rfl) : RA X (e :: es) (tCons te tA) (dA t dA') := ⟨pa_cons h.pe h2.pa hs, fun P => refA_cons (h.rf P) (h2.rf P)⟩
theorem re_tup {x1 : Nat} (h : RA X es tA dA') (hn : es.length ≤ SZ := by decide) : RE X (.Tuple es x1 pos) (tTup tA) (dTup dA') := ⟨pe_tup h.pa, fun P => ref_tup hn (h.rf P)⟩
theorem re_lst (h : RA X es tA dA') (hn : es.length ≤ SZ := by decide) : RE X (.List es pos) (tLst tA) (dLst dA') := ⟨pe_lst h.pa, fun P => ref_lst hn (h.rf P)⟩
theorem re_new (h : RA X es tA dA') (hn : es.length ≤ SZ := by decide) : RE X (.List es pos) (tLst tA) (dNew dA') := ⟨pe_lst h.pa, fun P => ref_new hn (h.rf P)⟩
/-! ### operators -/
theorem re_add (K0 : PySem.W.Frag) (h1 : RE X a ta t) (h2 : RE X b tb u) (hK : X.K = K0 := by rfl) : RE X (.BinOp a .Add b pos) (tOp (rAddAll K0) ta tb) (dOp oAdd t u) := by
  subst hK
  exact ⟨pe_op op_addAll h1.pe h2.pe, fun P => ref_op rf_add (h1.rf P) (h2.rf P)⟩
theorem re_sub (h1 : RE X a ta t) (h2 : RE X b tb u) : RE X (.BinOp a .Sub b pos) (tOp (rI0 fun i j => .int (i - j)) ta tb) (dOp oSub t u) := ⟨pe_op op_sub h1.pe h2.pe, fun P => ref_op rf_sub (h1.rf P) (h2.rf P)⟩
theorem re_mul (h1 : RE X a ta t) (h2 : RE X b tb u) : RE X (.BinOp a .Mult b pos) (tOp rMulAll ta tb) (dOp oMul t u) := ⟨pe_op op_mulAll h1.pe h2.pe, fun P => ref_op rf_mul (h1.rf P) (h2.rf P)⟩
theorem re_rep (h1 : RE X a ta t) (h2 : RE X b tb u) : RE X (.BinOp a .Mult b pos) (tOp rRepS ta tb) (dOp oRep t u) := ⟨pe_op op_repS h1.pe h2.pe, fun P => ref_op rf_rep (h1.rf P) (h2.rf P)⟩
theorem re_fdiv (h1 : RE X a ta t) (h2 : RE X b tb u) : RE X (.BinOp a .FloorDiv b pos) (tOp (rI CDivW fun i j => .int (i / j)) ta tb) (dOp oFdiv t u) := ⟨pe_op op_fdivW h1.pe h2.pe, fun P => ref_op rf_fdiv (h1.rf P) (h2.rf P)⟩
theorem re_mod (h1 : RE X a ta t) (h2 : RE X b tb u) : RE X (.BinOp a .Mod b pos) (tOp (rI (fun _ j => 0 < j) fun i j => .int (i % j)) ta tb) (dOp oMod t u) := ⟨pe_op op_mod h1.pe h2.pe, fun P => ref_op rf_mod (h1.rf P) (h2.rf P)⟩
theorem re_pow (h1 : RE X a ta t) (h2 : RE X b tb u) : RE X (.BinOp a .Pow b pos) (tOp (rI CPow fun i j => .int (i ^ j.toNat)) ta tb) (dOp oPow t u) := ⟨pe_op op_pow h1.pe h2.pe, fun P => ref_op rf_pow (h1.rf P) (h2.rf P)⟩
theorem re_neg (h1 : RE X a ta t) : RE X (.UnaryOp .USub a pos) (tUn (rU fun i => .int (-i)) ta) (dUn oNeg t) := ⟨pe_un un_neg h1.pe, fun P => ref_un rf_neg (h1.rf P)⟩
theorem re_ix (K0 : PySem.W.Frag) (h1 : RE X a ta t) (h2 : RE X b tb u) (hs : PlainIx b := by exact fun _ _ => rfl) (hK : X.K = K0 := by rfl) : RE X (.Subscript a b pos) (tOp (rIx K0) ta tb) (dOp oIx t u) := by
  subst hK
  exact ⟨pe_ix ix_seq h1.pe h2.pe hs, fun P => ref_op rf_ix (h1.rf P) (h2.rf P)⟩
structure RO (X : Cx) (e : Option Expr) (to : TO) (t : DO) : Prop where
  po : PO X e to
  rf : ∀ P, RefO ⟨X.K, P⟩ to t
theorem ro_none : RO X none tNoPart dNoPart := ⟨po_none, fun P => refO_none⟩
theorem ro_some (h : RE X e te t) : RO X (some e) (tPart te) (dPart t) := ⟨po_some h.pe, fun P => refO_some (h.rf P)⟩
theorem re_cut {lo hi : Option Expr} {tl th : TO} {dl dh : DO} {p2 : Pos} (K0 : PySem.W.Frag) (h : RE X e te t) (h1 : RO X lo tl dl) (h2 : RO X hi th dh) (hK : X.K = K0 := by rfl) : RE X (.Subscript e (.Slice lo hi none p2) pos) (tSl (rCutAll K0) te tl th) (dCut t dl dh) := by
  subst hK
  exact ⟨pe_slice sl_all h.pe h1.po h2.po, fun P => ref_cut (h.rf P) (h1.rf P) (h2.rf P)⟩
/-! ### comparisons -/
structure CM (X : Cx) (op : CmpOp) (r : L2.R2) (rd : DL.R2) : Prop where
  op : OpR X (compareOp op) r
  rf : ∀ P, RefR ⟨X.K, P⟩ r rd
theorem c_eq (K0 : PySem.W.Frag) (hr : Room k X.A) (hK : X.K = K0 := by rfl) : CM X .Eq (rEqAll K0) oEq := by
  subst hK
  exact ⟨op_eqAll hr.units, fun P => rf_eq⟩
theorem c_ne (K0 : PySem.W.Frag) (hr : Room k X.A) (hK : X.K = K0 := by rfl) : CM X .NotEq (rNeAll K0) oNe := by
  subst hK
  exact ⟨op_neAll hr.units, fun P => rf_ne⟩
theorem c_lt : CM X .Lt (rI0 fun i j => .bl (decide (i < j))) oLt := ⟨op_lt, fun P => rf_lt⟩
theorem c_le : CM X .LtE (rI0 fun i j => .bl (decide (i ≤ j))) oLe := ⟨op_le, fun P => rf_le⟩
theorem c_gt : CM X .Gt (rI0 fun i j => .bl (decide (j < i))) oGt := ⟨op_gt, fun P => rf_gt⟩
theorem c_ge : CM X .GtE (rI0 fun i j => .bl (decide (j ≤ i))) oGe := ⟨op_ge, fun P => rf_ge⟩
theorem c_in (K0 : PySem.W.Frag) (hK : X.K = K0 := by rfl) : CM X .In (rInAll K0) oIn := by
  subst hK
  exact ⟨op_inAll, fun P => rf_in⟩
theorem c_notIn (K0 : PySem.W.Frag) (hK : X.K = K0 := by rfl) : CM X .NotIn (rNotInAll K0) oNotIn := by
  subst hK
  exact ⟨op_notInAll, fun P => rf_notIn⟩
theorem re_cmp {op : CmpOp} {r : L2.R2} {rd : DL.R2} (c : CM X op r rd) (h1 : RE X a ta t) (h2 : RE X b tb u) (hm : behindInMarks op b = false := by first | exact nomark _ | rfl) : RE X (.Compare a [op] [b] pos) (tOp r ta tb) (dOp rd t u) :=
  ⟨pe_cmpR c.op h1.pe h2.pe hm, fun P => ref_op (c.rf P) (h1.rf P) (h2.rf P)⟩
theorem rt_cmp {op : CmpOp} {r : L2.R2} {rd : DL.R2} (c : CM X op r rd) (h1 : RE X a ta t) (h2 : RE X b tb u) (hm : behindInMarks op b = false := by first | exact nomark _ | rfl) : RT X (.Compare a [op] [b] pos) (tTest (tOp r ta tb)) (dTest (dOp rd t u)) :=
  ⟨pt_cmpR c.op h1.pe h2.pe hm, fun P => refT_test (ref_op (c.rf P) (h1.rf P) (h2.rf P))⟩
theorem re_chain {op op' : CmpOp} {r r' : L2.R2} {rd rd' : DL.R2} (c1 : CM X op r rd) (c2 : CM X op' r' rd') (h1 : RE X a ta t) (h2 : RE X b tb u) (h3 : RE X c tc w) (hm : lastMarks [op, op'] [b, c] = false := by with_unfolding_all rfl) :
    RE X (.Compare a [op, op'] [b, c] pos) (tChain r r' ta tb tc) (dChain rd rd' t u w) := ⟨pe_chain c1.op c2.op h1.pe h2.pe h3.pe hm, fun P => ref_chain (c1.rf P) (c2.rf P) (h1.rf P) (h2.rf P) (h3.rf P)⟩
theorem rt_chain {op op' : CmpOp} {r r' : L2.R2} {rd rd' : DL.R2} (c1 : CM X op r rd) (c2 : CM X op' r' rd') (h1 : RE X a ta t) (h2 : RE X b tb u) (h3 : RE X c tc w) (hm : lastMarks [op, op'] [b, c] = false := by with_unfolding_all rfl) :
    RT X (.Compare a [op, op'] [b, c] pos) (tTest (tChain r r' ta tb tc)) (dTest (dChain rd rd' t u w)) := ⟨pt_chain c1.op c2.op h1.pe h2.pe h3.pe hm, fun P => refT_test (ref_chain (c1.rf P) (c2.rf P) (h1.rf P) (h2.rf P) (h3.rf P))⟩
theorem re_isN {j : Nat} {p' : Pos} (h1 : RE X a ta t) : RE X (.Compare a [.Is] [.Constant .none j p'] pos) (tIsN ta) (dUn oIsN t) := ⟨pe_cmp (pc_isN h1.pe), fun P => ref_isN (h1.rf P)⟩
theorem re_notN {j : Nat} {p' : Pos} (h1 : RE X a ta t) : RE X (.Compare a [.IsNot] [.Constant .none j p'] pos) (tNotN ta) (dUn oNotN t) := ⟨pe_cmp (pc_notN h1.pe), fun P => ref_notN (h1.rf P)⟩
theorem rt_isN {j : Nat} {p' : Pos} (h1 : RE X a ta t) : RT X (.Compare a [.Is] [.Constant .none j p'] pos) (tB (tIsN ta)) (dTest (dUn oIsN t)) := ⟨pt_cmp (pc_isN h1.pe), fun P => refT_val (ref_isN (h1.rf P))⟩
theorem rt_notN {j : Nat} {p' : Pos} (h1 : RE X a ta t) : RT X (.Compare a [.IsNot] [.Constant .none j p'] pos) (tB (tNotN ta)) (dTest (dUn oNotN t)) := ⟨pt_cmp (pc_notN h1.pe), fun P => refT_val (ref_notN (h1.rf P))⟩
/-! ### tests -/
variable {d1 d2 : DT} {rest : List Expr}
theorem rt_val (h : RE X e te t) (he : ∀ whole, isTrue e X.env whole = (do let v ← whole; standAt e.pos; holding [v] (truthy v)) := by intro _; rfl) : RT X e (tB te) (dTest t) := ⟨pt_val h.pe he, fun P => refT_val (h.rf P)⟩
theorem rw_and1 (h : RT X a tt d1) : RW X (.BoolOp .And [a] pos) tt d1 := ⟨pw_and1 h.pt, h.rf⟩
theorem rw_or1 (h : RT X a tt d1) : RW X (.BoolOp .Or [a] pos) tt d1 := ⟨pw_or1 h.pt, h.rf⟩
theorem rw_and (h1 : RT X a tt d1) (h2 : RW X (.BoolOp .And (b :: rest) pos) tu d2) : RW X (.BoolOp .And (a :: b :: rest) pos) (tAnd tt tu) (dAnd d1 d2) := ⟨pw_and h1.pt h2.pw, fun P => refT_and (h1.rf P) (h2.rf P)⟩
theorem rw_or (h1 : RT X a tt d1) (h2 : RW X (.BoolOp .Or (b :: rest) pos) tu d2) : RW X (.BoolOp .Or (a :: b :: rest) pos) (tOr tt tu) (dOr d1 d2) := ⟨pw_or h1.pt h2.pw, fun P => refT_or (h1.rf P) (h2.rf P)⟩
theorem rt_w (h : RW X e tt d1) : RT X e tt d1 := ⟨h.pw.pt, h.rf⟩
theorem rt_not (h : RT X a tt d1) : RT X (.UnaryOp .Not a pos) (tNot tt) (dNot d1) := ⟨pt_not h.pt, fun P => refT_not (h.rf P)⟩
theorem re_one {op : BoolOp} (h : RE X a ta t) : RE X (.BoolOp op [a] pos) ta t := ⟨pe_one h.pe, h.rf⟩
theorem re_and (h1 : RE X a ta t) (h2 : RE X (.BoolOp .And (b :: rest) pos) tb u) : RE X (.BoolOp .And (a :: b :: rest) pos) (tAndV ta tb) (dAndV t u) := ⟨pe_and h1.pe h2.pe, fun P => ref_andV (h1.rf P) (h2.rf P)⟩
theorem re_or (h1 : RE X a ta t) (h2 : RE X (.BoolOp .Or (b :: rest) pos) tb u) : RE X (.BoolOp .Or (a :: b :: rest) pos) (tOrV ta tb) (dOrV t u) := ⟨pe_or h1.pe h2.pe, fun P => ref_orV (h1.rf P) (h2.rf P)⟩
theorem re_not (h : RE X a ta t) : RE X (.UnaryOp .Not a pos) (tNotV ta) (dNotV t) := ⟨pe_not h.pe, fun P => ref_notV (h.rf P)⟩
theorem re_ifE (h : RT X c tt d1) (h1 : RE X a ta t) (h2 : RE X b tb u) : RE X (.IfExp c a b pos) (tIf tt ta tb) (dIfE d1 t u) := ⟨pe_ifExp h.pt h1.pe h2.pe, fun P => ref_ifE (h.rf P) (h1.rf P) (h2.rf P)⟩
/-! ### built-ins -/
structure B1 (X : Cx) (f : Value) (r : List V → Hp → VK → Prop) (rd : R1) : Prop where
  op : CallR X f r
  rf : ∀ P, RefR1 ⟨X.K, P⟩ r rd
theorem re_b1 {x : Str} {id : String} {r : List V → Hp → VK → Prop} {rd : R1} (c : B1 X (.builtin id) r rd) (hv : bootBuiltins x = some (.builtin id)) (hg : Gl X x) (hm : X.mg x = none) (h : RE X e te t) (hn : x ≠ "__name__" := by decide) (hdb : (x == ("__debug__" : Str)) = false := by decide)
    (he : starEach [e] X.env = (false, eval e X.env) :: starEach [] X.env := by rfl) (hpl : (backTo pos (starEach [] X.env)).any (·.1) = false := by rfl) : RE X (.Call (.Name x p) [e] [] pos) (tCB r (tCons te tNil)) (dUn rd t) :=
  ⟨pe_callB c.op hg hm hv (pa_cons h.pe pa_nil he) hn hdb he hpl, fun P => ref_cb1 (c.rf P) (h.rf P)⟩
theorem re_bT {x : Str} {T : String} {r : List V → Hp → VK → Prop} {rd : R1} (c : B1 X (.type T) r rd) (hv : bootBuiltins x = some (.type T)) (hg : Gl X x) (hm : X.mg x = none) (h : RE X e te t) (hn : x ≠ "__name__" := by decide) (hdb : (x == ("__debug__" : Str)) = false := by decide)
    (he : starEach [e] X.env = (false, eval e X.env) :: starEach [] X.env := by rfl) (hpl : (backTo pos (starEach [] X.env)).any (·.1) = false := by rfl) : RE X (.Call (.Name x p) [e] [] pos) (tCB r (tCons te tNil)) (dUn rd t) :=
  ⟨pe_callTy c.op hg hm hv (pa_cons h.pe pa_nil he) hn hdb he hpl, fun P => ref_cb1 (c.rf P) (h.rf P)⟩
theorem b_len (K0 : PySem.W.Frag) (hK : X.K = K0 := by rfl) : B1 X (.builtin "len") (rLenAll K0) oLen := by
  subst hK
  exact ⟨call_len, fun P => rf_len⟩
abbrev rAbs1 : List V → Hp → VK → Prop := fun xs H Q => ∃ i, xs = [.int i] ∧ Q (.int (if i < 0 then -i else i)) H
abbrev rInt1 : List V → Hp → VK → Prop := fun xs H Q => (∃ i, xs = [.int i] ∧ Q (.int i) H) ∨ ∃ k, xs = [.bl k] ∧ Q (.int (if k then 1 else 0)) H
abbrev rStr1 : List V → Hp → VK → Prop := fun xs H Q => ∃ i, xs = [.int i] ∧ i.natAbs.log2 < 1920 ∧ Q (.str (toString i)) H
abbrev rTuple1 (K : PySem.W.Frag) : List V → Hp → VK → Prop := fun xs H Q => ∃ p ys, xs = [.ref p] ∧ ((SqL K H p ys ∧ ∀ l, H l = none → Q (.ref l) (upd H l (.tup ys))) ∨ (SqT K H p ys ∧ Q (.ref p) H))
abbrev rList1 (K : PySem.W.Frag) : List V → Hp → VK → Prop := fun xs H Q => ∃ p ys, xs = [.ref p] ∧ (SqL K H p ys ∨ SqT K H p ys) ∧ ∀ l, H l = none → Q (.ref l) (upd H l (.lst ys))
theorem b_abs : B1 X (.builtin "abs") rAbs1 oAbs := ⟨call_abs, fun P => rf_abs⟩
theorem b_int : B1 X (.type "int") rInt1 oInt := ⟨call_int1, fun P => rf_int⟩
theorem b_str : B1 X (.type "str") rStr1 oStr := ⟨call_str_int, fun P => rf_str⟩
theorem b_tuple (K0 : PySem.W.Frag) (hK : X.K = K0 := by rfl) : B1 X (.type "tuple") (rTuple1 K0) oTuple := by
  subst hK
  exact ⟨call_tuple_of, fun P => rf_tuple⟩
theorem b_list (K0 : PySem.W.Frag) (hK : X.K = K0 := by rfl) : B1 X (.type "list") (rList1 K0) oList := by
  subst hK
  exact ⟨call_list_of, fun P => rf_list⟩
theorem b_all (K0 : PySem.W.Frag) (hc : X.calm = true) (hK : X.K = K0 := by rfl) : B1 X (.builtin "all") (rAll K0) oAll := by
  subst hK
  exact ⟨cr_all hc, fun P => rf_all⟩
theorem b_any (K0 : PySem.W.Frag) (hc : X.calm = true) (hK : X.K = K0 := by rfl) : B1 X (.builtin "any") (rAny K0) oAny := by
  subst hK
  exact ⟨cr_any hc, fun P => rf_any⟩
theorem b_sum (K0 : PySem.W.Frag) (hc : X.calm = true) (hK : X.K = K0 := by rfl) : B1 X (.builtin "sum") (rSum K0) oSum := by
  subst hK
  exact ⟨cr_sum hc, fun P => rf_sum⟩
theorem re_isi {T : String} {y : Str} {p2 : Pos} (K0 : PySem.W.Frag) (hT : kitT T = true) (hv : bootBuiltins y = some (.type T)) (hg : Gl X "isinstance") (hm : X.mg "isinstance" = none) (hg2 : Gl X y) (hm2 : X.mg y = none) (h : RE X e te t) (hny : y ≠ "__name__" := by decide) (hdy : (y == ("__debug__" : Str)) = false := by decide)
    (he : starEach [e, .Name y p2] X.env = (false, eval e X.env) :: starEach [.Name y p2] X.env := by rfl) (he2 : starEach [.Name y p2] X.env = (false, eval (.Name y p2) X.env) :: starEach [] X.env := by rfl) (hpl : (backTo pos (starEach [.Name y p2] X.env)).any (·.1) = false := by rfl) (hK : X.K = K0 := by rfl) :
    RE X (.Call (.Name "isinstance" p) [e, .Name y p2] [] pos) (tCB (rIsi K0) (tCons te (tCons (tC (.ty T)) tNil))) (dUn (oIsi T) t) := by
  subst hK
  exact ⟨pe_callB call_isi hg hm boot_isinstance (pa_cons h.pe (pa_cons (pe_bltn hg2 hm2 hv rfl hny hdy) pa_nil he2) he) (by decide) (by decide) he hpl, fun P => rf_isi hT (h.rf P)⟩
/-! ### methods of lists -/
theorem tyV_list {K : Fg} {H : Hp} {M : Mem} {d : D} {x : V} (m : MRep K H M) (r : Rep K H M d x) (h : (asL M d).isSome = true) : tyV K.K "list" x H := by
  cases e : asL M d with
  | none => rw [e] at h; cases h
  | some ys =>
    obtain ⟨a, vs, rfl, q, _⟩ := asL_rep m r e
    exact .inl ⟨rfl, vs, q⟩
theorem ref_meth {K : Fg} {r : V → List V → Hp → VK → Prop} {rd : DL.R2} {to : TE} {do' : DE} (hr : ∀ x y H M dx dy Q Q', Rep K H M dx x → Rep K H M dy y → MRep K H M → rd dx dy M Q → Lift K H M Q Q' → r x [y] H Q') (h1 : Ref K to do') (h2 : Ref K te t) :
    Ref K (tBM K.K "list" r to (tCons te tNil)) (dMeth rd do' t) := fun σ H ρ M Q Q' s q l =>
  h1 σ H ρ M _ _ s q fun v H1 d M1 f1 r1 m1 q1 => ⟨tyV_list m1 r1 q1.1, h2 σ H1 ρ M1 _ _ (s.step f1 m1) q1.2 fun v2 H2 d2 M2 f2 r2 m2 q2 =>
    hr v v2 H2 M2 d d2 _ _ (r1.mono f2) r2 m2 q2 (l.later (f1.trans f2))⟩
theorem ref_meth0 {K : Fg} {r : V → List V → Hp → VK → Prop} {rd : R1} {to : TE} {do' : DE} (hr : ∀ x H M dx Q Q', Rep K H M dx x → MRep K H M → rd dx M Q → Lift K H M Q Q' → r x [] H Q') (h1 : Ref K to do') : Ref K (tBM0 K.K "list" r to) (dMeth0 rd do') := fun σ H ρ M Q Q' s q l =>
  h1 σ H ρ M _ _ s q fun v H1 d M1 f1 r1 m1 q1 => ⟨tyV_list m1 r1 q1.1, hr v H1 M1 d _ _ r1 m1 q1.2 (l.later f1)⟩
theorem mt_lst {K : Fg} {H : Hp} {M : Mem} {a : Addr} {xs : List D} (m : MRep K H M) (e : M a = some (.lst xs)) : ∃ vs, H a = some (.lst vs) ∧ Reps K H M xs vs := m.obj a _ e
theorem rm_append {K : Fg} : ∀ x y H M dx dy Q Q', Rep K H M dx x → Rep K H M dy y → MRep K H M → mAppend dx dy M Q → Lift K H M Q Q' → rAppend x [y] H Q' := fun x y H M dx dy Q Q' rx ry m q l => by
  cases dx with
  | ref a =>
    cases rx
    simp only [mAppend] at q
    cases e : M a with
    | none => simp only [e] at q
    | some mo =>
      cases mo with
      | lst xs =>
        simp only [e] at q
        obtain ⟨vs, hv, rv⟩ := mt_lst m e
        refine ⟨a, vs, y, rfl, rfl, hv, szLt (by rw [← rv.length]; exact q.1), ?_⟩
        exact l _ _ .non _ (Fr.write e) rfl (mrep_write (ws := vs) m e (rv.snoc ry)) q.2
      | _ => simp only [e] at q
  | _ => exact q.elim
theorem rm_pop {K : Fg} : ∀ x H M dx Q Q', Rep K H M dx x → MRep K H M → mPop dx M Q → Lift K H M Q Q' → rPop x [] H Q' := fun x H M dx Q Q' rx m q l => by
  cases dx with
  | ref a =>
    cases rx
    simp only [mPop] at q
    cases e : M a with
    | none => simp only [e] at q
    | some mo =>
      cases mo with
      | lst xs =>
        simp only [e] at q
        cases e2 : xs[xs.length - 1]? with
        | none => simp only [e2] at q
        | some d =>
          simp only [e2] at q
          obtain ⟨vs, hv, rv⟩ := mt_lst m e
          obtain ⟨y, hy, ry⟩ := rv.get e2
          refine ⟨a, vs, y, rfl, rfl, hv, by rw [← rv.length]; exact hy, ?_⟩
          exact l _ _ d _ (Fr.write e) (ry.mono (Fr.write e)) (mrep_write (ws := vs) m e rv.dropLast) q
      | _ => simp only [e] at q
  | _ => exact q.elim
theorem rm_popAt {K : Fg} : ∀ x y H M dx dy Q Q', Rep K H M dx x → Rep K H M dy y → MRep K H M → mPopAt dx dy M Q → Lift K H M Q Q' → rPopAt x [y] H Q' := fun x y H M dx dy Q Q' rx ry m q l => by
  cases dx with
  | ref a =>
    cases dy with
    | int i =>
      cases rx
      cases ry
      simp only [mPopAt] at q
      cases e : M a with
      | none => simp only [e] at q
      | some mo =>
        cases mo with
        | lst xs =>
          simp only [e] at q
          cases e1 : DL.ixN xs.length i with
          | none => simp only [e1] at q; exact q.2.elim
          | some k =>
            simp only [e1] at q
            cases e2 : xs[k]? with
            | none => simp only [e2] at q; exact q.2.elim
            | some d =>
              simp only [e2] at q
              obtain ⟨vs, hv, rv⟩ := mt_lst m e
              obtain ⟨y, hy, ry⟩ := rv.get e2
              refine ⟨a, vs, i, k, y, rfl, rfl, hv, q.1.1, q.1.2, ?_, hy, ?_⟩
              · rw [← rv.length]
                exact (L2.ixN_seq e1).1
              · exact l _ _ d _ (Fr.write e) (ry.mono (Fr.write e)) (mrep_write (ws := vs) m e (rv.eraseIdx k)) q.2
        | _ => simp only [e] at q
    | _ => exact q.elim
  | _ => exact q.elim
theorem re_append {to : TE} {do' : DE} {apos cpos : Pos} (K0 : PySem.W.Frag) (ho : RE X o to do') (h : RE X e te t) (hbase : attributeBase o "append" X.env (eval o X.env) = eval o X.env := by rfl)
    (hfew : ((backTo cpos (starEach [e] X.env)).all (fun x => !x.1) && (backToKw cpos (keywordEach [] X.env)).all (fun x => x.1.isSome)
      && decide ([e].length + ([] : List Keyword).length + (if ([] : List Keyword).isEmpty then 0 else 1) < 30)) = true := by rfl)
    (hline : (apos.endLine == cpos.line) = true := by rfl) (hs : starEach [e] X.env = (false, eval e X.env) :: starEach [] X.env := by rfl) (hplain : (backTo cpos (starEach [] X.env)).any (·.1) = false := by rfl) (hK : X.K = K0 := by rfl) :
    RE X (.Call (.Attribute o "append" apos) [e] [] cpos) (tBM K0 "list" rAppend to (tCons te tNil)) (dMeth mAppend do' t) := by
  subst hK
  exact ⟨pe_bm PySem.F.plainAttrs_list PySem.F.slot_list_append PySem.F.type_list_append mt_append ho.pe (pa_cons h.pe pa_nil hs) hbase hfew hline hs hplain, fun P => ref_meth (K := ⟨X.K, P⟩) rm_append (ho.rf P) (h.rf P)⟩
theorem re_popAt {to : TE} {do' : DE} {apos cpos : Pos} (K0 : PySem.W.Frag) (ho : RE X o to do') (h : RE X e te t) (hbase : attributeBase o "pop" X.env (eval o X.env) = eval o X.env := by rfl)
    (hfew : ((backTo cpos (starEach [e] X.env)).all (fun x => !x.1) && (backToKw cpos (keywordEach [] X.env)).all (fun x => x.1.isSome)
      && decide ([e].length + ([] : List Keyword).length + (if ([] : List Keyword).isEmpty then 0 else 1) < 30)) = true := by rfl)
    (hline : (apos.endLine == cpos.line) = true := by rfl) (hs : starEach [e] X.env = (false, eval e X.env) :: starEach [] X.env := by rfl) (hplain : (backTo cpos (starEach [] X.env)).any (·.1) = false := by rfl) (hK : X.K = K0 := by rfl) :
    RE X (.Call (.Attribute o "pop" apos) [e] [] cpos) (tBM K0 "list" rPopAt to (tCons te tNil)) (dMeth mPopAt do' t) := by
  subst hK
  exact ⟨pe_bm PySem.F.plainAttrs_list PySem.F.slot_list_pop PySem.F.type_list_pop mt_popAt ho.pe (pa_cons h.pe pa_nil hs) hbase hfew hline hs hplain, fun P => ref_meth (K := ⟨X.K, P⟩) rm_popAt (ho.rf P) (h.rf P)⟩
theorem re_pop {to : TE} {do' : DE} {apos cpos : Pos} (K0 : PySem.W.Frag) (ho : RE X o to do') (hbase : attributeBase o "pop" X.env (eval o X.env) = eval o X.env := by rfl) (hline : (apos.endLine == cpos.line) = true := by rfl) (hK : X.K = K0 := by rfl) :
    RE X (.Call (.Attribute o "pop" apos) [] [] cpos) (tBM0 K0 "list" rPop to) (dMeth0 mPop do') := by
  subst hK
  exact ⟨pe_bm0 PySem.F.plainAttrs_list PySem.F.slot_list_pop PySem.F.type_list_pop mt_pop ho.pe hbase hline, fun P => ref_meth0 (K := ⟨X.K, P⟩) rm_pop (ho.rf P)⟩
/-! ### walks, comprehensions -/
variable {tg iter : Expr} {wi : TI} {ti : DI}
theorem ri_seq (K0 : PySem.W.Frag) (h : RE X e te t) (hK : X.K = K0 := by rfl) : RI X tg e (DLE.iAny K0 te) (iSeq t) := by
  subst hK
  exact ⟨DLE.pi_any h.pe, fun P => refI_seq (K := ⟨X.K, P⟩) (h.rf P)⟩
theorem ri_range (hg : Gl X "range") (hm : X.mg "range" = none) (h : RE X e te t) (hs : starEach [e] X.env = [(false, eval e X.env)] := by rfl) : RI X tg (.Call (.Name "range" p) [e] [] pos) (iRng1 (tCons te tNil)) (iRange t) :=
  ⟨pi_range1 hg hm (pa_cons h.pe pa_nil hs) hs, fun P => refI_range (h.rf P)⟩
theorem ri_enum {elts : List Expr} {kk : Nat} {tpos : Pos} (K0 : PySem.W.Frag) (hg : Gl X "enumerate") (hm : X.mg "enumerate" = none) (h : RE X e te t) (hs : starEach [e] X.env = [(false, eval e X.env)] := by rfl) (hK : X.K = K0 := by rfl) : RI X (.Tuple elts kk tpos) (.Call (.Name "enumerate" p) [e] [] pos) (DLE.iEnumA K0 (tCons te tNil)) (iEnum t) := by
  subst hK
  exact ⟨DLE.pi_enumA hg hm (pa_cons h.pe pa_nil hs) hs, fun P => refI_enum (K := ⟨X.K, P⟩) (h.rf P)⟩
theorem ri_zip {elts : List Expr} {kk : Nat} {tpos : Pos} (K0 : PySem.W.Frag) (hg : Gl X "zip") (hm : X.mg "zip" = none) (h : RE X a ta t) (h2 : RE X b tb u) (hs : starEach [a, b] X.env = (false, eval a X.env) :: starEach [b] X.env := by rfl) (hs2 : starEach [b] X.env = (false, eval b X.env) :: starEach [] X.env := by rfl) (hpl : (backTo pos (starEach [b] X.env)).any (·.1) = false := by rfl) (hK : X.K = K0 := by rfl) :
    RI X (.Tuple elts kk tpos) (.Call (.Name "zip" p) [a, b] [] pos) (RZ.iZipA K0 (tCons ta (tCons tb tNil))) (iZip t u) := by
  subst hK
  exact ⟨RZ.pi_zipA hg hm (pa_cons h.pe (pa_cons h2.pe pa_nil hs2) hs) hs hpl, fun P => refI_zip (K := ⟨X.K, P⟩) (h.rf P) (h2.rf P)⟩
structure RTs (X : Cx) (ifs : List Expr) (tt : TT) (b : DT) : Prop where
  pt : PTs X ifs tt
  rf : ∀ P, RefT ⟨X.K, P⟩ tt b
theorem rts_nil : RTs X [] tYes dYes := ⟨pts_nil, fun P => refT_yes⟩
theorem rts_one (h : RT X c tt d1) : RTs X [c] tt d1 := ⟨pts_one h.pt, h.rf⟩
theorem re_comp {vs : List Nat} {elt : Expr} {ifs : List Expr} {scope : Scope} {own : List (Str × Nat)} {g : TG} {dg : DG} {db : DT} {de : DE} (hc : X.calm = true) (hN : X.N.Nodup) (hi : RI X tg iter wi ti) (ok : BlkOk X.N X.env.scope scope own)
    (hg : ∀ (s : Shared) (H : Hp) (C : Addr) (cl : List (Str × Addr)) (fp : List Addr), RG (X.blk s H scope (compEnvC scope cl C X.env) fp) tg g dg) (ho : Own vs g)
    (ht : ∀ (s : Shared) (H : Hp) (C : Addr) (cl : List (Str × Addr)) (fp : List Addr), RTs (X.blk s H scope (compEnvC scope cl C X.env) fp) ifs tt db)
    (he : ∀ (s : Shared) (H : Hp) (C : Addr) (cl : List (Str × Addr)) (fp : List Addr), RE (X.blk s H scope (compEnvC scope cl C X.env) fp) elt te de) (hvs : own.map (·.2) = vs := by rfl) (hs : ∀ x, foldedSetIterable iter X.env x = pure x := by intro _; rfl) :
    RE X (.ListComp elt [⟨tg, iter, ifs, 0⟩] scope pos) (tLc wi g tt te vs) (dComp ti dg db de vs) := by
  subst hvs
  exact ⟨pe_lc hc hN hi.pi ok (fun s H C cl fp => (hg s H C cl fp).pg) (fun s H C cl fp => (ht s H C cl fp).pt) (fun s H C cl fp => (he s H C cl fp).pe) hs,
    fun P => ref_comp (K := ⟨X.K, P⟩) (hi.rf P) (fun P' => (hg X.s_0 X.H_0 0 [] []).rf P') ho (fun P' => (ht X.s_0 X.H_0 0 [] []).rf P') fun P' => (he X.s_0 X.H_0 0 [] []).rf P'⟩
/-! ### targets -/
theorem rg_name {i : Nat} {x : Str} (hN : X.N.Nodup) (hi : X.N[i]? = some x) (hx : Loc X.env.scope x) (hf : X.fn x = true ∨ X.env.scope.names.lookup x = some .local := by first | exact .inl rfl | exact .inr rfl | assumption) : RG X (.Name x pos) (L2.gName i) (DL.gName i) :=
  ⟨pg_name hN hi hx hf, fun P => refG_name i⟩
structure RGn (X : Cx) (es : List Expr) (tg : TGs) (g : DGs) (n : Nat) : Prop where
  rg : RGs X es tg g
  many : Many g n
theorem rgs_nil : RGn X [] L2.gNil DL.gNil 0 := ⟨⟨pgs_nil, fun P => refGs_nil⟩, many_nil⟩
theorem many_cons {g : DG} {gs : DGs} {n : Nat} (h : Many gs n) (hg : ∀ d ρ M Q, g d ρ M Q → ∃ ρ' M', Q ρ' M') : Many (DL.gCons g gs) (n + 1) := fun ds ρ M Q q => by
  cases ds with
  | nil => exact q.elim
  | cons d ds =>
    obtain ⟨ρ', M', q'⟩ := hg d ρ M _ q
    rw [List.length_cons, h ds ρ' M' Q q']
theorem rgs_name {i : Nat} {x : Str} {tgs : TGs} {gs : DGs} {n : Nat} (hN : X.N.Nodup) (hi : X.N[i]? = some x) (hx : Loc X.env.scope x) (h2 : RGn X es tgs gs n)
    (hs : (assignEach (.Name x pos :: es) X.env).map (·.2) = assign (.Name x pos) X.env :: (assignEach es X.env).map (·.2) := by rfl) (hf : X.fn x = true ∨ X.env.scope.names.lookup x = some .local := by first | exact .inl rfl | exact .inr rfl | assumption) :
    RGn X (.Name x pos :: es) (L2.gCons (L2.gName i) tgs) (DL.gCons (DL.gName i) gs) (n + 1) :=
  ⟨⟨pgs_cons (pg_name hN hi hx hf) h2.rg.pg hs, fun P => refGs_cons (refG_name i) (h2.rg.rf P)⟩, many_cons h2.many fun d ρ M Q q => ⟨_, _, q⟩⟩
theorem rg_tup {tgs : TGs} {gs : DGs} {n kk : Nat} (K0 : PySem.W.Frag) (hc : X.calm = true) (h : RGn X es tgs gs n) (hn : (assignEach es X.env).length = n := by rfl) (hst : (assignEach es X.env).findIdx? (·.1) = none := by rfl) (hK : X.K = K0 := by rfl) : RG X (.Tuple es kk pos) (L2.gTup K0 n tgs) (DL.gTup gs) := by
  subst hK
  exact ⟨pg_tup hc h.rg.pg hn hst, fun P => refG_tup (K := ⟨X.K, P⟩) h.many (h.rg.rf P)⟩
theorem rg_sub {i : Expr} {to ti' : TE} {do' di : DE} (h1 : RE X o to do') (h2 : RE X i ti' di) (ha : ∀ v, assign (.Subscript o i pos) X.env v = (do
      let ov ← holding [v] (eval o X.env)
      let iv ← holding [v, ov] (eval i X.env)
      standAt pos
      holding [v, ov, iv] (setItem ov iv v)
      release [v, ov, iv] []) := by intro _; rfl) : RG X (.Subscript o i pos) (L2.gSub to ti' rSetL) (DL.gSub do' di) := ⟨pg_sub h1.pe h2.pe set_list ha, fun P => refG_sub (h1.rf P) (h2.rf P)⟩
/-! ### statements -/
variable {st : Stmt} {sts : List Stmt} {ts us : TS} {s1 s2 : DS}
theorem rss_nil : RSs X [] tNext sNext := ⟨pss_nil, fun P => refS_next⟩
theorem rss_cons (h1 : RS X st ts s1) (h2 : RSs X sts us s2) : RSs X (st :: sts) (tSeq ts us) (sSeq s1 s2) := ⟨pss_cons h1.ps h2.ps, fun P => refS_seq (h1.rf P) (h2.rf P)⟩
theorem rss_one (h1 : RS X st ts s1) : RSs X [st] ts s1 := ⟨pss_one h1.ps, h1.rf⟩
theorem rs_pass : RS X (.Pass pos) tNext sNext := ⟨ps_pass, fun P => refS_next⟩
theorem rs_break : RS X (.Break pos) tBreak sBreak := ⟨ps_break, fun P => refS_break⟩
theorem rs_cont : RS X (.Continue pos) tCont sCont := ⟨ps_continue, fun P => refS_cont⟩
theorem rs_expr (h : RE X e te t) (hs : swapsWith e none pos.line X.env = pure false := by rfl) : RS X (.Expr e pos) (tDrop te) (sExpr t) := ⟨ps_expr h.pe hs, fun P => refS_expr (h.rf P)⟩
theorem rs_ret (h : RE X e te t) : RS X (.Return (some e) pos) (tRet te) (sRet t) := ⟨ps_ret h.pe, fun P => refS_ret (h.rf P)⟩
theorem rs_retN : RS X (.Return none pos) tRetN sRetN := ⟨ps_retN, fun P => refS_retN⟩
theorem rs_if {aa bb : List Stmt} (h : RT X c tt d1) (h1 : RSs X aa ts s1) (h2 : RSs X bb us s2) : RS X (.If c aa bb pos) (tIfS tt ts us) (sIf d1 s1 s2) := ⟨ps_if h.pt h1.ps h2.ps, fun P => refS_if (h.rf P) (h1.rf P) (h2.rf P)⟩
theorem rs_set {i : Nat} {x : Str} {pos' : Pos} (hN : X.N.Nodup) (hi : X.N[i]? = some x) (hx : Loc X.env.scope x) (h : RE X e te t) (hs : swapsWith e (some (.Name x pos')) pos.line X.env = pure false := by rfl) (hf : X.fn x = true ∨ X.env.scope.names.lookup x = some .local := by first | exact .inl rfl | exact .inr rfl | assumption) :
    RS X (.Assign [.Name x pos'] e pos) (tAsg te (L2.gName i)) (sAsg t (DL.gName i)) := ⟨ps_set hN hi hx h.pe hs hf, fun P => refS_asg (h.rf P) (refG_name i)⟩
theorem rs_asg {g : TG} {dg : DG} (h : RE X e te t) (hg : RG X tg g dg) (hs : swapsWithSole [tg] e pos.line X.env = pure false := by rfl) (hw : swappedStores [tg] e X.env = pure none := by rfl)
    (h1 : (assignEach [tg] X.env).map (·.2) = [assign tg X.env] := by rfl) : RS X (.Assign [tg] e pos) (tAsg te g) (sAsg t dg) := ⟨ps_asg h.pe hg.pg hs hw h1, fun P => refS_asg (h.rf P) (hg.rf P)⟩
theorem rs_setLc {vs : List Nat} {i : Nat} {y : Str} {py spos : Pos} {elt : Expr} {ifs : List Expr} {scope : Scope} {own : List (Str × Nat)} {g : TG} {dg : DG} {db : DT} {de : DE} (hc : X.calm = true) (hN : X.N.Nodup) (hy : X.N[i]? = some y) (hyl : X.env.scope.names.lookup y = some .local)
    (hsw : swapsWith (.ListComp elt [⟨tg, iter, ifs, 0⟩] scope pos) (some (.Name y py)) spos.line X.env = pure true) (hi : RI X tg iter wi ti) (ok : BlkOk X.N X.env.scope scope own)
    (hg : ∀ (s : Shared) (H : Hp) (C : Addr) (cl : List (Str × Addr)) (fp : List Addr), RG (X.blk s H scope (compEnvC scope cl C X.env) fp) tg g dg) (ho : Own vs g)
    (ht : ∀ (s : Shared) (H : Hp) (C : Addr) (cl : List (Str × Addr)) (fp : List Addr), RTs (X.blk s H scope (compEnvC scope cl C X.env) fp) ifs tt db)
    (he : ∀ (s : Shared) (H : Hp) (C : Addr) (cl : List (Str × Addr)) (fp : List Addr), RE (X.blk s H scope (compEnvC scope cl C X.env) fp) elt te de) (hvs : own.map (·.2) = vs := by rfl) (hs : ∀ x, foldedSetIterable iter X.env x = pure x := by intro _; rfl) :
    RS X (.Assign [.Name y py] (.ListComp elt [⟨tg, iter, ifs, 0⟩] scope pos) spos) (tAsg (tLc wi g tt te vs) (L2.gName i)) (sAsg (dComp ti dg db de vs) (DL.gName i)) := by
  subst hvs
  exact ⟨ps_setLc hc hN hy hyl hsw hi.pi ok (fun s H C cl fp => (hg s H C cl fp).pg) (fun s H C cl fp => (ht s H C cl fp).pt) (fun s H C cl fp => (he s H C cl fp).pe) hs,
    fun P => refS_asg (ref_comp (K := ⟨X.K, P⟩) (hi.rf P) (fun P' => (hg X.s_0 X.H_0 0 [] []).rf P') ho (fun P' => (ht X.s_0 X.H_0 0 [] []).rf P') fun P' => (he X.s_0 X.H_0 0 [] []).rf P') (refG_name i)⟩
theorem rs_for {body : List Stmt} {g : TG} {dg : DG} (hp : PassesOwn (model X.prog X.w) X.A X.env X.xe) (hc : X.calm = true) (hi : RI X tg iter wi ti) (hg : RG X tg g dg) (hb : RSs X body ts s1) (hs : ∀ x, foldedSetIterable iter X.env x = pure x := by intro _; rfl) :
    RS X (.For tg iter body [] pos) (tFor wi g ts) (sFor ti dg s1) := ⟨ps_for hp hc hi.pi hg.pg hb.ps hs, fun P => refS_for (hi.rf P) (hg.rf P) (hb.rf P)⟩
theorem rs_while {body : List Stmt} (hp : PassesOwn (model X.prog X.w) X.A X.env X.xe) (h : RT X c tt d1) (hb : RSs X body ts s1) : RS X (.While c body [] pos) (tWhile tt ts) (sWhile d1 s1) := ⟨ps_while hp h.pt hb.ps, fun P => refS_while (h.rf P) (hb.rf P)⟩
/-! ### calls -/
/-- a def's promise in the hand layer's words -/
def toSp (K : PySem.W.Frag) (n : Nat) (sp : Spec) : Sp := fun vs H Q _ => ∃ (P : Addr → Prop) (ds : List D) (M : Mem), Reps ⟨K, P⟩ H M ds vs ∧ ds.length = n ∧ MRep ⟨K, P⟩ H M ∧ sp.pre ds M ∧
  ∀ d M', sp.post ds M d M' → ∀ v H', Fr H M H' M' → Rep ⟨K, P⟩ H' M' d v → MRep ⟨K, P⟩ H' M' → Q v H'
theorem ref_call {K : Fg} {n : Nat} {sp : Spec} (h : RefA K n tA dA') : Ref K (tCall (toSp K.K n sp) [] E0 tA) (dCall sp dA') := fun σ H ρ M Q Q' s q l =>
  h σ H ρ M _ _ s q fun vs H1 ds M1 f1 r1 n1 m1 q1 => ⟨K.P, ds, M1, by rw [List.append_nil]; exact r1, n1, m1, q1.1, fun d M' hp v H' f r m => l v H' d M' (f1.trans f) r m (q1.2 d M' hp)⟩
theorem re_call {f : Addr} {fd : FuncData} {ps : List Str} {n : Nat} {sp : Spec} {x : Str} (K0 : PySem.W.Frag) (F : FnOk X.prog X.w X.K X.mg X.base CX0 k f fd ps (toSp X.K n sp)) (hr : Room k X.A) (hg : Gl X x) (hm : X.mg x = some (.ref f)) (hk : PySem.W.keepIn X.K (.ref f) = true) (hb : Binds X.K fd ps [])
    (h : RA X (e :: es) tA dA') (hn : (e :: es).length = n := by rfl) (hdb : (x == ("__debug__" : Str)) = false := by decide) (he : starEach (e :: es) X.env = (false, eval e X.env) :: starEach es X.env := by rfl) (hpl : (backTo pos (starEach es X.env)).any (·.1) = false := by rfl) (hK : X.K = K0 := by rfl) :
    RE X (.Call (.Name x p) (e :: es) [] pos) (tCall (toSp K0 n sp) [] E0 tA) (dCall sp dA') := by
  subst hn
  subst hK
  exact ⟨pe_call F hr hg hm hk hb .nil pass0 h.pa hdb he hpl, fun P => ref_call (K := ⟨X.K, P⟩) (h.rf P)⟩
end
/-! ### defs -/
theorem start_rep {K : Fg} {H : Hp} {M : Mem} {N : List Str} {ds : List D} {vs : List V} (r : Reps K H M ds vs) (m : MRep K H M) : SRep K (L2.start N vs) H (DL.start N.length ds) M := by
  refine ⟨?_, fun i d e => ?_, m⟩
  · unfold L2.start DL.start
    simp [r.length]
  · unfold DL.start at e
    unfold L2.start
    by_cases h : i < ds.length
    · rw [List.getElem?_append_left (by simpa using h), List.getElem?_map] at e
      cases q : ds[i]? with
      | none => rw [q] at e; cases e
      | some d' =>
        rw [q] at e
        cases e
        obtain ⟨v, hv, rv⟩ := r.get q
        refine ⟨v, ?_, rv⟩
        rw [List.getElem?_append_left (by rw [List.length_map, ← r.length]; exact h), List.getElem?_map, hv]
        rfl
    · rw [List.getElem?_append_right (by simpa using h)] at e
      have := List.mem_of_getElem? e
      simp at this
theorem def_ok {P : Program} {w : World} {K : PySem.W.Frag} {mg : Str → Option Value} {base : Heap} {x qual : Str} {params : Arguments} {body : List Stmt} {scope : Scope} {dvs : List V} {kws : List (Str × V)} {f : Addr} {fd : FuncData} {N ps : List Str} {k n : Nat} {sp : Spec} {t : DS}
    (F : FunD K x qual params body scope dvs kws f fd) (S : FnScope N ps scope) (hn : n = ps.length)
    (hbody : ∀ (cdv : Value) (A : Around) (outer : List PySem.Env) (s : Shared) (H : Hp) (E : XK), Room k (A.deeper (envOfC qual scope s.heap.objs.size f cdv)) → ∃ ts, RSs (cxOf CX0 P w K mg base N qual scope f cdv A outer s H E).nox body ts t)
    (does : Does N.length t n sp) : FnOk P w K mg base CX0 (k + 1) f fd ps (toSp K n sp) := by
  refine F.ok S (fun vs H Q E h => ?_) (fun cdv A outer s H vs Q E hr h => ?_)
  · obtain ⟨P', ds, M, r, e, _⟩ := h
    rw [← r.length, e, hn]
  · obtain ⟨P', ds, M, r, e, m, hpre, hpost⟩ := h
    obtain ⟨ts, b⟩ := hbody cdv A outer s H E hr
    refine ⟨ts, b.ps.nox, b.rf P' _ H _ M _ _ (start_rep r m) (does ds M e hpre) ?_⟩
    have fin : ∀ v H' d M', Fr H M H' M' → Rep ⟨K, P'⟩ H' M' d v → MRep ⟨K, P'⟩ H' M' → Ret sp ds M d M' → Q v H' := fun v H' d M' f r m q => by
      obtain ⟨d', M'', ⟨hs, ho⟩, hp⟩ := q
      have f2 : Fr H M H' M'' := f.trans (Fr.sub hs)
      have m2 := m.sub hs
      rcases ho with rfl | ⟨p, xs, rfl, e1, e2, rfl⟩
      · exact hpost d' M'' hp v H' f2 (r.mono (Fr.sub hs)) m2
      · cases r
        obtain ⟨vs', hv, rv⟩ := m.obj p _ e1
        refine hpost _ M'' hp _ H' f2 ⟨p, vs', rfl, ⟨hv, e2, fun z => ?_⟩, rv.mono (Fr.sub hs)⟩ m2
        have := (m.prv p z).2
        rw [e1] at this
        cases this
    exact ⟨fun σ' H' ρ' M' f s q => fin .non H' .non M' f rfl s.mem q, fin, fun _ _ _ _ _ _ q => q.elim, fun _ _ _ _ _ _ q => q.elim⟩
/-- a def as others call it -/
def Fn (P : Program) (w : World) (K : PySem.W.Frag) (mg : Str → Option Value) (base : Heap) (k : Nat) (x : Str) (n : Nat) (sp : Spec) : Prop :=
  ∃ (f : Addr) (fd : FuncData) (ps : List Str), FnOk P w K mg base CX0 k f fd ps (toSp K n sp) ∧ mg x = some (.ref f) ∧ PySem.W.keepIn K (.ref f) = true ∧ Binds K fd ps []
theorem Fn.mono {P : Program} {w : World} {K : PySem.W.Frag} {mg : Str → Option Value} {base : Heap} {j k : Nat} {x : Str} {n : Nat} {sp : Spec} (c : Fn P w K mg base j x n sp) (h : j ≤ k) : Fn P w K mg base k x n sp := by
  obtain ⟨f, fd, ps, h1, h2⟩ := c
  exact ⟨f, fd, ps, h1.mono h, h2⟩
theorem re_fn {X : Cx} {p pos : Pos} {e : Expr} {es : List Expr} {tA : TA} {dA' : DA} {k n : Nat} {sp : Spec} {x : Str} (K0 : PySem.W.Frag) (c : Fn X.prog X.w X.K X.mg X.base k x n sp) (hr : Room k X.A) (hg : Gl X x)
    (h : RA X (e :: es) tA dA') (hn : (e :: es).length = n := by rfl) (hdb : (x == ("__debug__" : Str)) = false := by decide) (he : starEach (e :: es) X.env = (false, eval e X.env) :: starEach es X.env := by rfl) (hpl : (backTo pos (starEach es X.env)).any (·.1) = false := by rfl) (hK : X.K = K0 := by rfl) :
    RE X (.Call (.Name x p) (e :: es) [] pos) (tCall (toSp K0 n sp) [] E0 tA) (dCall sp dA') := by
  subst hK
  obtain ⟨f, fd, ps, h1, h2, h3, h4⟩ := c
  exact re_call X.K h1 hr hg h2 h3 h4 h hn hdb he hpl
/-- a weaker promise, or one of a lower level -/
theorem spec_imp {P : Program} {w : World} {K : PySem.W.Frag} {mg : Str → Option Value} {base : Heap} {f : Addr} {fd : FuncData} {ps : List Str} {k n : Nat} {sp sp' : Spec} (F : FnOk P w K mg base CX0 k f fd ps (toSp K n sp))
    (h : ∀ ds M, sp'.pre ds M → sp.pre ds M ∧ ∀ d M', sp.post ds M d M' → sp'.post ds M d M') : FnOk P w K mg base CX0 k f fd ps (toSp K n sp') := F.imp fun vs H Q E ⟨P', ds, M, r, e, m, hpre, hpost⟩ =>
  ⟨P', ds, M, r, e, m, (h ds M hpre).1, fun d M' q => hpost d M' ((h ds M hpre).2 d M' q)⟩
end DL
/-! DLT: dicts -/
namespace DL
open PySem PySem.Spec PyProof.Rows L2
section
variable {K : Fg} {X : Cx} {tt : TT} {tk tv td ty tz : TE} {b : DT} {dk dv dd dy dz : DE}
theorem keyOf_rep {H : Hp} {M : Mem} {d : D} {v : V} {k : Key} (r : Rep K H M d v) (e : keyOf d = some k) : v = kV k := by
  cases d with
  | int i => cases e; cases r; rfl
  | str x => cases e; cases r; rfl
  | _ => cases e
theorem put_new : ∀ (ks : List Key) (vs : List V) (k : Key) (v : V), k ∉ ks → ks.length = vs.length → putK (ks.zip vs) k v = (ks ++ [k]).zip (vs ++ [v]) := by
  intro ks vs k v hk hl
  have h : ¬ ((ks.zip vs).any fun kv => decide (kv.1 = k)) = true := by
    rw [List.any_eq_true]
    rintro ⟨⟨a, w⟩, hm, he⟩
    have := List.of_mem_zip hm
    have e : a = k := of_decide_eq_true he
    exact hk (e ▸ this.1)
  unfold putK
  rw [if_neg h, List.zip_append hl]
  rfl
theorem valD_rep {H : Hp} {M : Mem} : ∀ (ks : List Key) {ds : List D} {vs : List V} (k : Key), Reps K H M ds vs → ks.length = vs.length →
    (valD ks ds k = none ∧ valV (ks.zip vs) k = none) ∨ ∃ d v, valD ks ds k = some d ∧ valV (ks.zip vs) k = some v ∧ Rep K H M d v
  | [], ds, vs, k, r, hl => by
    refine .inl ⟨by cases ds <;> rfl, by rw [List.zip_nil_left]; rfl⟩
  | a :: ks, [], vs, k, r, hl => by
    rw [show vs = [] from r] at hl
    cases hl
  | a :: ks, d :: ds, _, k, ⟨v, t, rfl, hr, rt⟩, hl => by
    simp only [valD, List.zip_cons_cons]
    by_cases e : a = k
    · rw [if_pos e, valV_pos e]
      exact .inr ⟨d, v, rfl, rfl, hr⟩
    · rw [if_neg e, valV_neg e]
      exact valD_rep ks k rt (by simpa using hl)
theorem ref_get2 (h1 : Ref K td dd) (h2 : Ref K ty dy) (h3 : Ref K tz dz) : Ref K (tDGet2 td ty tz) (dGet2 dd dy dz) := fun σ H ρ M Q Q' s q l =>
  h1 σ H ρ M _ _ s q fun v1 H1 d1 M1 f1 r1 m1 q1 => by
    cases d1 with
    | dK ks ds =>
      obtain ⟨a, vs, rfl, ⟨ha, ma, pa⟩, hl, rs⟩ := r1
      refine ⟨a, rfl, .inl ⟨_, .inl ha⟩, ?_⟩
      refine h2 σ H1 ρ M1 _ _ (s.step f1 m1) q1 fun v2 H2 d2 M2 f2 r2 m2 q2 => ?_
      refine h3 σ H2 ρ M2 _ _ (s.step (f1.trans f2) m2) q2 fun v3 H3 d3 M3 f3 r3 m3 q3 => ?_
      have F : Fr H1 M1 H3 M3 := f2.trans f3
      cases ek : keyOf d2 with
      | none => rw [ek] at q3; exact q3.elim
      | some k =>
        rw [ek] at q3
        replace q3 : Q ((valD ks ds k).getD d3) M3 := q3
        have e2 := keyOf_rep r2 ek
        subst e2
        refine ⟨_, DGet.k (F a _ ha ma).1, ?_⟩
        rcases valD_rep ks k (rs.mono F) hl with ⟨e1, e2⟩ | ⟨d, v, e1, e2, rv⟩
        · rw [e1] at q3
          rw [e2]
          exact l _ H3 d3 M3 (f1.trans F) r3 m3 q3
        · rw [e1] at q3
          rw [e2]
          exact l _ H3 d M3 (f1.trans F) rv m3 q3
    | _ => exact False.elim q1
theorem ref_dcomp {wi : TI} {ti : DI} {tg : TG} {g : DG} {vs : List Nat} (hi : RefI K wi ti) (hg : ∀ P, RefG ⟨K.K, P⟩ tg g) (ho : Own vs tg) (ht : ∀ P, RefT ⟨K.K, P⟩ tt b) (hk : ∀ P, Ref ⟨K.K, P⟩ tk dk) (he : ∀ P, Ref ⟨K.K, P⟩ tv dv) : Ref K (tDc wi tg tt tk tv vs) (dDComp ti g b dk dv vs) := fun σ H ρ M Q Q' s q l =>
  hi σ H ρ M _ _ s q fun J H1 ds M1 f1 m1 gv q1 D hD => by
    obtain ⟨hz, q1⟩ := q1
    have mD : M1 D = none := m1.free hD
    have hid := hide_new (K := K) hD
    refine ⟨fun i m H' => ∃ M' ks acc accV, Fr H1 M1 H' M' ∧ MRep (K.hide D) H' M' ∧ H' D = some (.dK (ks.zip accV)) ∧ ks.length = accV.length ∧ M' D = none ∧ Reps (K.hide D) H' M' acc accV ∧ acc.length ≤ i ∧ i ≤ ds.length ∧ m = ds.length - i ∧ dDCompL g b dk dv (DL.wipe ρ vs) (ds.drop i) ks acc M' Q,
      ⟨ds.length, M1, [], [], [], Fr.new hD, m1.hide hD, upd_same, rfl, mD, rfl, Nat.zero_le _, Nat.zero_le _, by simp, q1⟩, ?_⟩
    rintro i m H' ⟨M', ks, acc, accV, f, m', hD', hkl, mD', ra, ha, hi', rfl, qq⟩
    by_cases hlt : i < ds.length
    · obtain ⟨d, hd, hdr⟩ := drop_cons hlt
      rw [hdr] at qq
      refine .inr ⟨gv.go i H' M' f hlt, fun H2 => ∃ M2 ks2 acc2 accV2, Fr H1 M1 H2 M2 ∧ MRep (K.hide D) H2 M2 ∧ H2 D = some (.dK (ks2.zip accV2)) ∧ ks2.length = accV2.length ∧ M2 D = none ∧ Reps (K.hide D) H2 M2 acc2 accV2 ∧ acc2.length ≤ i + 1 ∧ dDCompL g b dk dv (DL.wipe ρ vs) (ds.drop (i + 1)) ks2 acc2 M2 Q,
        fun H2 ⟨M2, ks2, acc2, accV2, z1, z2, z3, z3', z4, z5, z6, z7⟩ => ⟨ds.length - (i + 1), by omega, M2, ks2, acc2, accV2, z1, z2, z3, z3', z4, z5, z6, hlt, rfl, z7⟩, fun x H2 y => ?_⟩
      obtain ⟨f2, m2, r2⟩ := gv.yld (K.hide D).P hid i H' M' x H2 f m' y d hd
      have s2 : SRep (K.hide D) (L2.wipe σ vs) H2 (DL.wipe ρ vs) M' := by
        have z : SRep (K.hide D) σ H2 ρ M' := ⟨s.len, fun i d e => let ⟨v, q, r⟩ := s.env i d e; ⟨v, q, ((r.mono f1).hides hid).mono (f.trans f2)⟩, m2⟩
        exact z.wipe vs
      refine ho x _ H2 _ _ (fun σ3 H3 e3 q3 => ⟨by rw [e3]; exact wipe_wipe fun _ h => h, q3⟩) (hg _ x d _ H2 _ M' _ _ s2 r2 qq fun σ3 H3 ρ3 M3 f3 s3 q3 => ?_)
      refine ht _ σ3 H3 ρ3 M3 _ _ s3 q3 fun k H4 M4 f4 m4 q4 => ?_
      have F4 : Fr H1 M1 H4 M4 := ((f.trans f2).trans f3).trans f4
      have F4' : Fr H' M' H4 M4 := (f2.trans f3).trans f4
      cases k with
      | true =>
        rw [if_pos rfl] at q4 ⊢
        refine hk _ σ3 H4 ρ3 M4 _ _ (s3.step f4 m4) q4 fun y5 H5 dy M5 f5 r5 m5 q5 => ?_
        refine he _ σ3 H5 ρ3 M5 _ _ (s3.step (f4.trans f5) m5) q5 fun v H6 dv M6 f6 r6 m6 q6 => ?_
        have F6 : Fr H1 M1 H6 M6 := (F4.trans f5).trans f6
        have F6' : Fr H' M' H6 M6 := (F4'.trans f5).trans f6
        obtain ⟨hD6, mD6⟩ := F6' D _ hD' mD'
        cases ek : keyOf dy with
        | none => rw [ek] at q6; exact q6.elim
        | some kk =>
          rw [ek] at q6
          have e5 := keyOf_rep r5 ek
          have hlz : (ks.zip accV).length < 100000 := by
            have := ra.length
            rw [List.length_zip]
            omega
          refine ⟨ks.zip accV, kk, e5, hD6, szLt hlz, M6, ks ++ [kk], acc ++ [dv], accV ++ [v], fun a o e w => ?_, MRep.priv (K := K.hide D) m6 (.inr rfl), by rw [put_new ks accV kk v q6.1 hkl]; exact upd_same, by simp [hkl], mD6, Reps.priv (K := K.hide D) (.inr rfl) ((ra.mono F6').snoc r6), by rw [List.length_append]; show acc.length + 1 ≤ i + 1; omega, q6.2⟩
          have ne := ne_of_none e hD
          obtain ⟨z1, z2⟩ := F6 a o e w
          exact ⟨by rw [upd_ne ne]; exact z1, z2⟩
      | false =>
        rw [if_neg Bool.false_ne_true] at q4 ⊢
        obtain ⟨hD4, mD4⟩ := F4' D _ hD' mD'
        exact ⟨M4, ks, acc, accV, F4, m4, hD4, hkl, mD4, ra.mono F4', by omega, q4⟩
    · have e : i = ds.length := by omega
      subst e
      rw [List.drop_length] at qq
      refine .inl ⟨gv.stop H' M' f, ?_⟩
      exact l _ H' (.dK ks acc) M' (f1.trans f) ⟨D, accV, rfl, ⟨hD', mD', m1.nprv hD⟩, hkl, ra.bare⟩ m'.bare qq
end
section
variable {X : Cx} {pos : Pos} {k : Nat}
theorem re_get2 {o e f : Expr} {apos cpos : Pos} {td ty tz : TE} {dd dy dz : DE} (hr : Room k X.A) (ho : RE X o td dd) (he : RE X e ty dy) (hf : RE X f tz dz) (hbase : attributeBase o "get" X.env (eval o X.env) = eval o X.env := by rfl)
    (hfew : ((backTo cpos (starEach [e, f] X.env)).all (fun x => !x.1) && (backToKw cpos (keywordEach [] X.env)).all (fun x => x.1.isSome)
      && decide (([e, f] : List Expr).length + ([] : List Keyword).length + (if ([] : List Keyword).isEmpty then 0 else 1) < 30)) = true := by rfl)
    (hline : (apos.endLine == cpos.line) = true := by rfl) (htrees : backTo cpos (starEach [e, f] X.env) = [(false, eval e X.env), (false, eval f X.env)] := by rfl) :
    RE X (.Call (.Attribute o "get" apos) [e, f] [] cpos) (tDGet2 td ty tz) (dGet2 dd dy dz) :=
  ⟨pe_dget2 (by have := hr.un; omega) ho.pe he.pe hf.pe ⟨hbase, hfew, hline, htrees⟩, fun P => ref_get2 (ho.rf P) (he.rf P) (hf.rf P)⟩
theorem re_dcomp {tg iter : Expr} {wi : TI} {ti : DI} {tt : TT} {tk tv : TE} {vs : List Nat} {kx vx : Expr} {ifs : List Expr} {scope : Scope} {own : List (Str × Nat)} {g : TG} {dg : DG} {db : DT} {dk dv : DE} (hc : X.calm = true) (hN : X.N.Nodup) (hi : RI X tg iter wi ti) (ok : BlkOk X.N X.env.scope scope own)
    (hg : ∀ (s : Shared) (H : Hp) (C : Addr) (cl : List (Str × Addr)) (fp : List Addr), RG (X.blk s H scope (compEnvC scope cl C X.env) fp) tg g dg) (ho : Own vs g)
    (ht : ∀ (s : Shared) (H : Hp) (C : Addr) (cl : List (Str × Addr)) (fp : List Addr), RTs (X.blk s H scope (compEnvC scope cl C X.env) fp) ifs tt db)
    (hk : ∀ (s : Shared) (H : Hp) (C : Addr) (cl : List (Str × Addr)) (fp : List Addr), RE (X.blk s H scope (compEnvC scope cl C X.env) fp) kx tk dk)
    (he : ∀ (s : Shared) (H : Hp) (C : Addr) (cl : List (Str × Addr)) (fp : List Addr), RE (X.blk s H scope (compEnvC scope cl C X.env) fp) vx tv dv) (hvs : own.map (·.2) = vs := by rfl) (hs : ∀ x, foldedSetIterable iter X.env x = pure x := by intro _; rfl) :
    RE X (.DictComp kx vx [⟨tg, iter, ifs, 0⟩] scope pos) (tDc wi g tt tk tv vs) (dDComp ti dg db dk dv vs) := by
  subst hvs
  exact ⟨pe_dc hc hN hi.pi ok (fun s H C cl fp => (hg s H C cl fp).pg) (fun s H C cl fp => (ht s H C cl fp).pt) (fun s H C cl fp => (hk s H C cl fp).pe) (fun s H C cl fp => (he s H C cl fp).pe) hs,
    fun P => ref_dcomp (K := ⟨X.K, P⟩) (hi.rf P) (fun P' => (hg X.s_0 X.H_0 0 [] []).rf P') ho (fun P' => (ht X.s_0 X.H_0 0 [] []).rf P') (fun P' => (hk X.s_0 X.H_0 0 [] []).rf P') fun P' => (he X.s_0 X.H_0 0 [] []).rf P'⟩
end
end DL
/-! DLU: lists unpacked, +=, max, index, comprehensions whose list may change -/
namespace DL
open PySem PySem.Spec PyProof.Rows L2
section
variable {K : Fg} {H : Hp} {M : Mem} {D0 : Addr}
mutual
/-- what does not name a private place does not mind that the memory knows it -/
theorem Rep.shown {o : MO} : ∀ {d : D} {v : V}, Rep (K.hide D0) H M d v → Rep K H (mset M D0 o) d v
  | .non, _, h => h
  | .bl _, _, h => h
  | .int _, _, h => h
  | .str _, _, h => h
  | .ref _, _, h => h
  | .ty _, _, h => h
  | .cls _, _, h => h
  | .tup ds, _, ⟨a, vs, e, q, r⟩ => ⟨a, vs, e, by
      rcases q with ⟨q, m, p⟩ | q
      · have ne : a ≠ D0 := fun z => p (.inr z)
        exact .inl ⟨q, by rw [mset_ne ne]; exact m, fun z => p (.inl z)⟩
      · exact .inr q, Reps.shown r⟩
  | .lst ds, _, ⟨a, vs, e, q, r⟩ => ⟨a, vs, e, ⟨q.1, by rw [mset_ne (show a ≠ D0 from fun z => q.2.2 (.inr z))]; exact q.2.1, fun z => q.2.2 (.inl z)⟩, Reps.shown r⟩
  | .rol ds, _, ⟨a, vs, e, q, r⟩ => ⟨a, vs, e, by
      rcases q with ⟨q, m, p⟩ | q
      · have ne : a ≠ D0 := fun z => p (.inr z)
        exact .inl ⟨q, by rw [mset_ne ne]; exact m, fun z => p (.inl z)⟩
      · exact .inr q, Reps.shown r⟩
  | .dK ks ds, _, ⟨a, vs, e, q, z, r⟩ => ⟨a, vs, e, ⟨q.1, by rw [mset_ne (show a ≠ D0 from fun z => q.2.2 (.inr z))]; exact q.2.1, fun z => q.2.2 (.inl z)⟩, z, Reps.shown r⟩
  | .dT ks ds, _, ⟨a, vs, e, q, z, r⟩ => ⟨a, vs, e, ⟨q.1, by rw [mset_ne (show a ≠ D0 from fun z => q.2.2 (.inr z))]; exact q.2.1, fun z => q.2.2 (.inl z)⟩, z, Reps.shown r⟩
  | .ins C ns ds, _, ⟨a, dx, vs, e, q, z, r⟩ => ⟨a, dx, vs, e, ⟨q.1, by rw [mset_ne (show a ≠ D0 from fun z => q.2.2 (.inr z))]; exact q.2.1, fun z => q.2.2 (.inl z)⟩, z, Reps.shown r⟩
theorem Reps.shown {o : MO} : ∀ {ds : List D} {vs : List V}, Reps (K.hide D0) H M ds vs → Reps K H (mset M D0 o) ds vs
  | [], _, h => h
  | d :: ds, _, ⟨v, r, e, q, t⟩ => ⟨v, r, e, Rep.shown q, Reps.shown t⟩
end
/-- the private place becomes a list of the memory -/
theorem MRep.shown {acc : List D} {accV : List V} (m : MRep (K.hide D0) H M) (hD : H D0 = some (.lst accV)) (mD : M D0 = none) (nP : ¬ K.P D0) (r : Reps (K.hide D0) H M acc accV) : MRep K H (mset M D0 (.lst acc)) := by
  refine ⟨fun a u e => ?_, fun a q => ?_⟩
  · by_cases z : a = D0
    · subst z
      rw [mset_same] at e
      cases e
      exact ⟨accV, hD, r.shown⟩
    · rw [mset_ne z] at e
      have q := m.obj a u e
      cases u with
      | lst ds => obtain ⟨vs, e, r⟩ := q; exact ⟨vs, e, r.shown⟩
      | dK ks ds => obtain ⟨vs, e, z, r⟩ := q; exact ⟨vs, e, z, r.shown⟩
      | dT ks ds => obtain ⟨vs, e, z, r⟩ := q; exact ⟨vs, e, z, r.shown⟩
      | ins C ns ds => obtain ⟨dx, vs, e, z, r⟩ := q; exact ⟨dx, vs, e, z, r.shown⟩
      | tupP ds => obtain ⟨vs, o, e, z, r⟩ := q; exact ⟨vs, o, e, z, r.shown⟩
      | deck k b =>
        refine DeckRep.keep (K := K.hide D0) (K' := K) (M' := mset M D0 (.lst acc)) q (fun x u _ e => e) (fun x _ e => e) (fun x w => ?_) (fun x w ex mx px => ⟨ex, by rw [mset_ne (show x ≠ D0 from fun z => px (.inr z))]; exact mx, fun z => px (.inl z)⟩)
        rw [mset_ne (show x ≠ D0 from fun z => by rw [z, mD] at w; cases w)]
        exact w
      | part c => exact q
  · obtain ⟨w, ma⟩ := m.prv a (.inl q)
    exact ⟨w, by rw [mset_ne (show a ≠ D0 from fun z => nP (z ▸ q))]; exact ma⟩
end
section
variable {K : Fg} {X : Cx} {tt : TT} {te : TE} {b : DT} {de : DE}
theorem ref_compN {wi : TI} {ti : DI} {tg : TG} {g : DG} {vs : List Nat} (hi : RefI K wi ti) (hg : ∀ P, RefG ⟨K.K, P⟩ tg g) (ho : Own vs tg) (ht : ∀ P, RefT ⟨K.K, P⟩ tt b) (he : ∀ P, Ref ⟨K.K, P⟩ te de) : Ref K (tLc wi tg tt te vs) (dCompN ti g b de vs) := fun σ H ρ M Q Q' s q l =>
  hi σ H ρ M _ _ s q fun J H1 ds M1 f1 m1 gv q1 D hD => by
    obtain ⟨hz, q1⟩ := q1
    have mD : M1 D = none := m1.free hD
    have hid := hide_new (K := K) hD
    refine ⟨fun i m H' => ∃ M' acc accV, Fr H1 M1 H' M' ∧ MRep (K.hide D) H' M' ∧ H' D = some (.lst accV) ∧ M' D = none ∧ Reps (K.hide D) H' M' acc accV ∧ acc.length ≤ i ∧ i ≤ ds.length ∧ m = ds.length - i ∧ dCompL g b de (DL.wipe ρ vs) (ds.drop i) acc M' (fun x M1 => match x with
      | .lst xs => ∀ p, M1 p = none → Q (.ref p) (mset M1 p (.lst xs))
      | _ => False),
      ⟨ds.length, M1, [], [], Fr.new hD, m1.hide hD, upd_same, mD, rfl, Nat.zero_le _, Nat.zero_le _, by simp, q1⟩, ?_⟩
    rintro i m H' ⟨M', acc, accV, f, m', hD', mD', ra, ha, hi', rfl, qq⟩
    by_cases hlt : i < ds.length
    · obtain ⟨d, hd, hdr⟩ := drop_cons hlt
      rw [hdr] at qq
      refine .inr ⟨gv.go i H' M' f hlt, fun H2 => ∃ M2 acc2 accV2, Fr H1 M1 H2 M2 ∧ MRep (K.hide D) H2 M2 ∧ H2 D = some (.lst accV2) ∧ M2 D = none ∧ Reps (K.hide D) H2 M2 acc2 accV2 ∧ acc2.length ≤ i + 1 ∧ dCompL g b de (DL.wipe ρ vs) (ds.drop (i + 1)) acc2 M2 (fun x M1 => match x with
        | .lst xs => ∀ p, M1 p = none → Q (.ref p) (mset M1 p (.lst xs))
        | _ => False),
        fun H2 ⟨M2, acc2, accV2, z1, z2, z3, z4, z5, z6, z7⟩ => ⟨ds.length - (i + 1), by omega, M2, acc2, accV2, z1, z2, z3, z4, z5, z6, hlt, rfl, z7⟩, fun x H2 y => ?_⟩
      obtain ⟨f2, m2, r2⟩ := gv.yld (K.hide D).P hid i H' M' x H2 f m' y d hd
      have s2 : SRep (K.hide D) (L2.wipe σ vs) H2 (DL.wipe ρ vs) M' := by
        have z : SRep (K.hide D) σ H2 ρ M' := ⟨s.len, fun i d e => let ⟨v, q, r⟩ := s.env i d e; ⟨v, q, ((r.mono f1).hides hid).mono (f.trans f2)⟩, m2⟩
        exact z.wipe vs
      refine ho x _ H2 _ _ (fun σ3 H3 e3 q3 => ⟨by rw [e3]; exact wipe_wipe fun _ h => h, q3⟩) (hg _ x d _ H2 _ M' _ _ s2 r2 qq fun σ3 H3 ρ3 M3 f3 s3 q3 => ?_)
      refine ht _ σ3 H3 ρ3 M3 _ _ s3 q3 fun k H4 M4 f4 m4 q4 => ?_
      have F4 : Fr H1 M1 H4 M4 := ((f.trans f2).trans f3).trans f4
      have F4' : Fr H' M' H4 M4 := (f2.trans f3).trans f4
      cases k with
      | true =>
        rw [if_pos rfl] at q4 ⊢
        refine he _ σ3 H4 ρ3 M4 _ _ (s3.step f4 m4) q4 fun v H5 dv M5 f5 r5 m5 q5 => ?_
        have F5 : Fr H1 M1 H5 M5 := F4.trans f5
        have F5' : Fr H' M' H5 M5 := F4'.trans f5
        obtain ⟨hD5, mD5⟩ := F5' D _ hD' mD'
        refine ⟨accV, hD5, szLt (by rw [← ra.length]; omega), M5, acc ++ [dv], accV ++ [v], fun a o e w => ?_, MRep.priv (K := K.hide D) m5 (.inr rfl), upd_same, mD5, Reps.priv (K := K.hide D) (.inr rfl) ((ra.mono F5').snoc r5), by rw [List.length_append]; show acc.length + 1 ≤ i + 1; omega, q5⟩
        have ne := ne_of_none e hD
        obtain ⟨z1, z2⟩ := F5 a o e w
        exact ⟨by rw [upd_ne ne]; exact z1, z2⟩
      | false =>
        rw [if_neg Bool.false_ne_true] at q4 ⊢
        obtain ⟨hD4, mD4⟩ := F4' D _ hD' mD'
        exact ⟨M4, acc, accV, F4, m4, hD4, mD4, ra.mono F4', by omega, q4⟩
    · have e : i = ds.length := by omega
      subst e
      rw [List.drop_length] at qq
      refine .inl ⟨gv.stop H' M' f, ?_⟩
      refine l _ H' (.ref D) (mset M' D (.lst acc)) (f1.trans fun a o e w => ?_) rfl (m'.shown hD' mD' (m1.nprv hD) ra) (qq D mD')
      have ne := ne_of_none e hD
      obtain ⟨z1, z2⟩ := f a o e w
      exact ⟨z1, by rw [mset_ne ne]; exact z2⟩
theorem rf_catN : RefR K rCat oCatN := fun x y H M dx dy Q Q' rx ry m q l => by
  unfold oCatN at q
  cases e1 : asW M dx with
  | none => rw [e1] at q; exact q.elim
  | some a =>
    cases e2 : asW M dy with
    | none => rw [e1, e2] at q; exact q.elim
    | some b =>
      rw [e1, e2] at q
      obtain ⟨a1, v1, rfl, h1, r1⟩ := asW_rep m rx e1
      obtain ⟨a2, v2, rfl, h2, r2⟩ := asW_rep m ry e2
      exact ⟨a1, a2, v1, v2, rfl, rfl, h1, h2, szLe (by rw [← r1.length, ← r2.length]; exact q.1), fun p hp => l _ _ (.ref p) _ (Fr.newM hp) rfl (mrep_newM m hp (r1.append r2)) (q.2 p (m.free hp))⟩
theorem refG_lst {tgs : TGs} {gs : DGs} {n : Nat} (hn : ∀ ds ρ M Q, gs ds ρ M Q → ds.length = n) (h : RefGs K tgs gs) : RefG K (L2.gLst K.K n tgs) (DL.gLst gs) := fun v d σ H ρ M Q Q' s r q l => by
  unfold DL.gLst at q
  cases e : asL M d with
  | none => rw [e] at q; exact q.elim
  | some xs =>
    rw [e] at q
    obtain ⟨a, vs, rfl, h1, rr⟩ := asL_rep s.mem r e
    exact ⟨a, vs, rfl, h1, by rw [← rr.length]; exact hn _ _ _ _ q, h vs xs σ H ρ M _ _ s rr q l⟩
theorem ix_rep {H : Hp} {M : Mem} {d : D} {y : V} (g : flat d = true) (q : Rep K H M d y) : ∀ {ds : List D} {vs : List V} (k j : Nat), ds.all flat = true → Reps K H M ds vs → ixOf ds d k = some j → ∃ (i : Nat) (z : V), j = k + i ∧ vs[i]? = some z ∧ eqV z y = true ∧ ∀ (m : Nat) (z' : V), m < i → vs[m]? = some z' → eqV z' y = false
  | [], _, k, j, _, _, e => by cases e
  | c :: ds, _, k, j, p, ⟨v, r, rfl, hr, rt⟩, e => by
    simp only [List.all_cons, Bool.and_eq_true] at p
    have ev := flat_eqv p.1 g hr q
    simp only [ixOf] at e
    split at e
    · rename_i h
      cases e
      exact ⟨0, v, rfl, rfl, ev.trans h, fun m z' hm => by omega⟩
    · rename_i h
      obtain ⟨i, z, e1, e2, e3, e4⟩ := ix_rep g q (k + 1) j p.2 rt e
      refine ⟨i + 1, z, by omega, by rw [List.getElem?_cons_succ]; exact e2, e3, fun m z' hm hz => ?_⟩
      cases m with
      | zero =>
        rw [List.getElem?_cons_zero] at hz
        cases hz
        rw [ev]
        exact Bool.eq_false_iff.mpr h
      | succ m => exact e4 m z' (by omega) (by rwa [List.getElem?_cons_succ] at hz)
theorem rm_index : ∀ x y H M dx dy Q Q', Rep K H M dx x → Rep K H M dy y → MRep K H M → mIndex dx dy M Q → Lift K H M Q Q' → rIndex K.K x [y] H Q' := fun x y H M dx dy Q Q' rx ry m q l => by
  unfold mIndex at q
  cases e : asL M dx with
  | none => rw [e] at q; exact q.elim
  | some ys =>
    rw [e] at q
    obtain ⟨a, vs, rfl, h1, rr⟩ := asL_rep m rx e
    obtain ⟨f1, f2, q⟩ := q
    cases ei : ixOf ys dy 0 with
    | none => rw [ei] at q; exact q.elim
    | some j =>
      rw [ei] at q
      obtain ⟨i, z, e1, e2, e3, e4⟩ := ix_rep f1 ry 0 j f2 rr ei
      have ej : j = i := by omega
      subst ej
      exact ⟨a, vs, y, j, z, rfl, rfl, h1, flat_rep f1 ry, (flat_all f1 ry f2 rr).1, e2, e3, e4, finI l m q⟩
end
section
variable {X : Cx} {pos p : Pos} {k : Nat} {e o : Expr} {te to : TE} {t do' : DE}
theorem re_catN {a c : Expr} {ta tb : TE} {ua ub : DE} (h1 : RE X a ta ua) (h2 : RE X c tb ub) : RE X (.BinOp a .Add c pos) (tOp rCat ta tb) (dOp oCatN ua ub) := ⟨pe_op op_cat h1.pe h2.pe, fun P => ref_op rf_catN (h1.rf P) (h2.rf P)⟩
theorem rs_aug {i : Nat} {x : Str} {pos' : Pos} (hN : X.N.Nodup) (hi : X.N[i]? = some x) (hx : Loc X.env.scope x) (h : RE X e te t) (hf : X.fn x = true ∨ X.env.scope.names.lookup x = some .local := by first | exact .inl rfl | exact .inr rfl | assumption) :
    RS X (.AugAssign (.Name x pos') .Add e pos) (tAug i te (ipI fun i j => i + j)) (sAug i t oAddI) := ⟨ps_aug hN hi hx h.pe ip_add hf, fun P => refS_aug rf_addI (h.rf P)⟩
theorem re_max2 {a c : Expr} {ta tb : TE} {ua ub : DE} (hc : X.calm = true) (hg : Gl X "max") (hm : X.mg "max" = none) (h1 : RE X a ta ua) (h2 : RE X c tb ub)
    (he : starEach [a, c] X.env = (false, eval a X.env) :: starEach [c] X.env := by rfl) (he2 : starEach [c] X.env = (false, eval c X.env) :: starEach [] X.env := by rfl) (hpl : (backTo pos (starEach [c] X.env)).any (·.1) = false := by rfl) :
    RE X (.Call (.Name "max" p) [a, c] [] pos) (tCB rMax2' (tCons ta (tCons tb tNil))) (dOp oMax ua ub) :=
  ⟨pe_callB (call_max2 hc) hg hm boot_max (pa_cons h1.pe (pa_cons h2.pe pa_nil he2) he) (by decide) (by decide) he hpl, fun P => ref_cb2 rf_max (h1.rf P) (h2.rf P)⟩
theorem rg_lst {es : List Expr} {tgs : TGs} {gs : DGs} {n kk : Nat} (K0 : PySem.W.Frag) (hc : X.calm = true) (h : RGn X es tgs gs n) (hn : (assignEach es X.env).length = n := by rfl) (hst : (assignEach es X.env).findIdx? (·.1) = none := by rfl) (hK : X.K = K0 := by rfl) : RG X (.Tuple es kk pos) (L2.gLst K0 n tgs) (DL.gLst gs) := by
  subst hK
  exact ⟨pg_lst hc h.rg.pg hn hst, fun P => refG_lst (K := ⟨X.K, P⟩) h.many (h.rg.rf P)⟩
theorem re_index {apos cpos : Pos} (K0 : PySem.W.Frag) (ho : RE X o to do') (h : RE X e te t) (hbase : attributeBase o "index" X.env (eval o X.env) = eval o X.env := by rfl)
    (hfew : ((backTo cpos (starEach [e] X.env)).all (fun x => !x.1) && (backToKw cpos (keywordEach [] X.env)).all (fun x => x.1.isSome)
      && decide ([e].length + ([] : List Keyword).length + (if ([] : List Keyword).isEmpty then 0 else 1) < 30)) = true := by rfl)
    (hline : (apos.endLine == cpos.line) = true := by rfl) (hs : starEach [e] X.env = (false, eval e X.env) :: starEach [] X.env := by rfl) (hplain : (backTo cpos (starEach [] X.env)).any (·.1) = false := by rfl) (hK : X.K = K0 := by rfl) :
    RE X (.Call (.Attribute o "index" apos) [e] [] cpos) (tBM K0 "list" (rIndex K0) to (tCons te tNil)) (dMeth mIndex do' t) := by
  subst hK
  exact ⟨pe_bm PySem.F.plainAttrs_list PySem.F.slot_list_index PySem.F.type_list_index mt_index ho.pe (pa_cons h.pe pa_nil hs) hbase hfew hline hs hplain, fun P => ref_meth (K := ⟨X.K, P⟩) rm_index (ho.rf P) (h.rf P)⟩
theorem re_compN {tg iter : Expr} {wi : TI} {ti : DI} {tt : TT} {vs : List Nat} {elt : Expr} {ifs : List Expr} {scope : Scope} {own : List (Str × Nat)} {g : TG} {dg : DG} {db : DT} {de : DE} (hc : X.calm = true) (hN : X.N.Nodup) (hi : RI X tg iter wi ti) (ok : BlkOk X.N X.env.scope scope own)
    (hg : ∀ (s : Shared) (H : Hp) (C : Addr) (cl : List (Str × Addr)) (fp : List Addr), RG (X.blk s H scope (compEnvC scope cl C X.env) fp) tg g dg) (ho : Own vs g)
    (ht : ∀ (s : Shared) (H : Hp) (C : Addr) (cl : List (Str × Addr)) (fp : List Addr), RTs (X.blk s H scope (compEnvC scope cl C X.env) fp) ifs tt db)
    (he : ∀ (s : Shared) (H : Hp) (C : Addr) (cl : List (Str × Addr)) (fp : List Addr), RE (X.blk s H scope (compEnvC scope cl C X.env) fp) elt te de) (hvs : own.map (·.2) = vs := by rfl) (hs : ∀ x, foldedSetIterable iter X.env x = pure x := by intro _; rfl) :
    RE X (.ListComp elt [⟨tg, iter, ifs, 0⟩] scope pos) (tLc wi g tt te vs) (dCompN ti dg db de vs) := by
  subst hvs
  exact ⟨pe_lc hc hN hi.pi ok (fun s H C cl fp => (hg s H C cl fp).pg) (fun s H C cl fp => (ht s H C cl fp).pt) (fun s H C cl fp => (he s H C cl fp).pe) hs,
    fun P => ref_compN (K := ⟨X.K, P⟩) (hi.rf P) (fun P' => (hg X.s_0 X.H_0 0 [] []).rf P') ho (fun P' => (ht X.s_0 X.H_0 0 [] []).rf P') fun P' => (he X.s_0 X.H_0 0 [] []).rf P'⟩
end
end DL
/-! DLV: t[::-1], t == (), {}, defaults -/
namespace DL
open PySem PySem.Spec PyProof.Rows L2
section
variable {prog : Program} {w : World} {A : Around} {E : Value → Shared → Prop} {s : Shared}
theorem adjust_rev (n : Nat) : Builtin.Slice.sliceAdjust none none (-1) (n : Int) = ((n : Int) - 1, -1) := rfl
theorem places_rev (n : Nat) : Builtin.Slice.slicePlaces ((n : Int) - 1) (-1) (-1) = n := by
  unfold Builtin.Slice.slicePlaces
  have h1 : ¬ ((-1 : Int) > 0) := by decide
  simp only [h1, if_false]
  rw [show (- -1 : Int) = 1 by decide, Int.ediv_one]
  split <;> omega
theorem pick_rev (xs : Array Value) : ((List.range xs.size).filterMap fun (m : Nat) => xs[(((xs.size : Int) - 1) + (m : Int) * (-1)).toNat]?).toArray = xs.toList.reverse.toArray := by
  have e : (fun (m : Nat) => xs[(((xs.size : Int) - 1) + (m : Int) * (-1)).toNat]?) = fun (m : Nat) => xs[(((xs.size : Int) - 1) - (m : Int)).toNat]? := by
    funext m
    rw [show ((xs.size : Int) - 1) + (m : Int) * (-1) = ((xs.size : Int) - 1) - (m : Int) by omega]
  rw [e]
  have e2 : (List.range xs.size).filterMap (fun (m : Nat) => xs[(((xs.size : Int) - 1) - (m : Int)).toNat]?) = ((List.range xs.size).map fun k => xs.size - 1 - k).filterMap (xs[·]?) := by
    rw [List.filterMap_map]
    congr 1
    funext m
    show xs[(((xs.size : Int) - 1) - (m : Int)).toNat]? = xs[xs.size - 1 - m]?
    rw [show (((xs.size : Int) - 1) - (m : Int)).toNat = xs.size - 1 - m by omega]
  rw [e2, PySem.W.krv_range, List.filterMap_reverse, PySem.W.krv_all]
theorem sliceApplied_rev {sl : Addr} {vl vu vs : Value} {n : Nat} {Q : Int × Int × Nat → Shared → Prop} (hs : s.heap.IsSliceOf sl vl vu vs) (pl : IsPart vl none) (pu : IsPart vu none) (ps : IsPart vs (some (-1)))
    (h : Q ((n : Int) - 1, -1, n) s) : wpAny (model prog w) A (Builtin.Slice.sliceApplied (.ref sl) (pure (n : Int))) Q E s := by
  obtain ⟨os, hos, hcs, hds⟩ := id hs
  unfold Builtin.Slice.sliceApplied Builtin.Slice.sliceFields
  refine wpAny_bind (wpAny_bind (wpAny_field hos hds (x := vl) rfl (wpAny_bind (wpAny_field hos hds (x := vu) rfl (wpAny_bind (wpAny_field hos hds (x := vs) rfl (wpAny_pure ?_)))))))
  refine wpAny_bind (HT.slicePart_ ps ?_)
  show wpAny _ _ (if ((-1 : Int) == 0) = true then _ else _) _ _ s
  rw [if_neg (by decide)]
  refine wpAny_bind (HT.slicePart_ pl (wpAny_bind (HT.slicePart_ pu (wpAny_bind (wpAny_pure ?_)))))
  show wpAny _ _ (match Builtin.Slice.sliceAdjust none none (-1) (n : Int) with | (lo, hi) => pure (lo, (-1 : Int), Builtin.Slice.slicePlaces lo hi (-1))) _ _ s
  rw [adjust_rev n]
  show wpAny _ _ (pure ((n : Int) - 1, (-1 : Int), Builtin.Slice.slicePlaces ((n : Int) - 1) (-1) (-1))) _ _ s
  rw [places_rev]
  exact wpAny_pure h
theorem getItem_tuple_rev {t sl : Addr} {items : Array Value} {vl vu vs : Value} {Q : Value → Shared → Prop} (ht : IsTup s.heap t items) (hs : s.heap.IsSliceOf sl vl vu vs) (pl : IsPart vl none) (pu : IsPart vu none) (ps : IsPart vs (some (-1)))
    (h : Q (.ref s.heap.objs.size) { s with heap := s.heap.push { cls := .type "tuple", data := .seq items.toList.reverse.toArray } })
    (hsz : items.size ≤ sizeLine) : wpAny (model prog w) A (getItem (.ref t) (.ref sl)) Q E s := by
  have htake : sizeOk (.seq items.toList.reverse.toArray) := by
    show items.toList.reverse.toArray.size ≤ sizeLine
    rw [List.size_toArray, List.length_reverse, Array.length_toList]
    exact hsz
  obtain ⟨os, hos, hcs, hds⟩ := id hs
  have hTs : s.TypeIs (.ref sl) "slice" := ⟨os, hos, hcs⟩
  unfold getItem
  try with_reducible refine wpAny_holding ?_
  first | refine wpAny_bind (wpAny_pure ?_) | skip
  refine wpAny_bind (wpAny_sequenceKey ht.typeIs (by decide) ?_)
  refine wpAny_bind (wpAny_callSpecial?_slot (name := Str.ofString "__getitem__") ht.typeIs PyProof.Rows.slot_tuple_getitem
    (wpAny_call_entry PyProof.Rows.slot_tuple_getitem ht.typeIs PyProof.Rows.entry_tuple_getitem ?_ (PyProof.Rows.args_tuple_getitem _ _)))
  show wpAny _ _ (Builtin.Tuple.tupleItemsOf (.ref t) >>= _) _ _ s
  refine wpAny_bind (tupleItemsOf_ ht ?_)
  refine wpAny_bind (wpAny_typeOf hTs ?_)
  rw [if_pos (by decide)]
  refine wpAny_bind (sliceApplied_rev hs pl pu ps ?_)
  have hno : ¬ ((((items.size : Int) - 1) == 0 && (-1 : Int) == 1 && items.size == items.size) = true) := by
    intro q
    rw [Bool.and_eq_true, Bool.and_eq_true] at q
    exact absurd q.1.2 (by decide)
  show wpAny _ _ (if (((items.size : Int) - 1) == 0 && (-1 : Int) == 1 && items.size == items.size) = true then _ else _) _ _ s
  rw [if_neg hno, pick_rev]
  first
    | exact wpAny_bind (m := Builtin.Tuple.tupleExact _) (wpAny_newObj_type (wpAny_pure ⟨_, rfl, wpAny_pure h⟩) htake)
    | exact wpAny_bind (m := Builtin.Tuple.tupleExact _) (wpAny_newObj_type (wpAny_bind (wpAny_pure (wpAny_pure ⟨_, rfl, wpAny_pure h⟩))) htake)
    | exact wpAny_bind (wpAny_bind (m := Builtin.Tuple.tupleExact _) (wpAny_newObj_type (wpAny_pure (wpAny_pure ⟨_, rfl, wpAny_pure h⟩)) htake))
    | exact wpAny_bind (wpAny_bind (m := Builtin.Tuple.tupleExact _) (wpAny_newObj_type (wpAny_pure ⟨_, rfl, wpAny_pure h⟩) htake))
end
section
variable {X : Cx}
def tRevT (K : PySem.W.Frag) (te : TE) : TE := fun σ H Q => te σ H fun x H1 => ∃ a xs, x = .ref a ∧ SqT K H1 a xs ∧ ∀ p, H1 p = none → Q (.ref p) (upd H1 p (.tup xs.reverse))
theorem pe_revT {e : Expr} {te : TE} {k : Nat} {p1 p2 p3 pos : Pos} (he : PE X e te) : PE X (.Subscript e (.Slice none none (some (.UnaryOp .USub (.Constant (.int 1) k p1) p2)) p3) pos) (tRevT X.K te) := by
  refine ⟨fun pins s σ H Q I h => ?_⟩
  refine Subscript_ (thn (he.run pins s σ H _ I h) fun v s1 ⟨x, H1, I1, r1, q1⟩ => ?_)
  obtain ⟨a, xs, ex, hx, q⟩ := q1
  subst ex
  cases r1
  have hst : PO X (some (.UnaryOp .USub (.Constant (.int 1) k p1) p2)) (tPart (tUn (rU fun i => .int (-i)) (tC (.int 1)))) := po_some (pe_un un_neg pe_int)
  refine wpAny_Slice (thn (po_none.run pins s1 σ H1 (fun o H2 => o = none ∧ H2 = H1) I1 ⟨rfl, rfl⟩) fun vl s2 ⟨l, H2, I2, pl, el, e2⟩ => ?_)
  subst el e2
  refine thn (po_none.run pins s2 σ H2 (fun o H3 => o = none ∧ H3 = H2) I2 ⟨rfl, rfl⟩) fun vu s3 ⟨u, H3, I3, pu, eu, e3⟩ => ?_
  subst eu e3
  refine thn (hst.run pins s3 σ H3 (fun o H4 => o = some (-1) ∧ H4 = H3) I3 ⟨1, rfl, -1, rfl, rfl, rfl⟩) fun vs s4 ⟨o, H4, I4, ps, eo, e4⟩ => ?_
  subst eo e4
  have I5 : Inv X pins σ H4 { s4 with heap := s4.heap.push { cls := .type "slice", data := .fields #[vl, vu, vs] } } := I4.kept (t' := s4.toks) fun b ob q => Heap.get?_push_of_some _ q
  obtain ⟨its, r, ht, hz⟩ := I5.tuple hx
  have hlen := r.length
  show wpAny (model X.prog X.w) X.A (subscriptTail e (.Slice none none (some (.UnaryOp .USub (.Constant (.int 1) k p1) p2)) p3) (.ref a) (.ref s4.heap.objs.size)) (EP X pins σ Q) X.xe { s4 with heap := s4.heap.push { cls := .type "slice", data := .fields #[vl, vu, vs] } }
  refine tail_any (ops := [.ref a, .ref s4.heap.objs.size]) ht.typeIs (PyProof.Rows.slot_tuple_getitem.lookup) ?_ (by with_unfolding_all rfl)
  refine getItem_tuple_rev ht (Heap.IsSliceOf.new _ vl vu vs) pl pu ps ?_ (by rw [List.size_toArray]; omega)
  refine ⟨.ref _, _, I5.laid (t' := s4.toks) (o := .tup xs.reverse) (fun b ob q => Heap.get?_push_of_some _ q) (Nat.le_refl _) ?_, rfl, q _ (I5.hok.fresh (Nat.le_refl _))⟩
  exact ⟨by rw [List.length_reverse]; exact hz, its.reverse, r.reverse, by simpa using IsTup.new (s4.heap.push { cls := .type "slice", data := .fields #[vl, vu, vs] }) its.reverse.toArray⟩
/-! t == () -/
def rEqT0 (K : PySem.W.Frag) : L2.R2 := fun x y H Q => ∃ a b xs, x = .ref a ∧ y = .ref b ∧ SqT K H a xs ∧ SqT K H b [] ∧ Q (.bl xs.isEmpty) H
def rNeT0 (K : PySem.W.Frag) : L2.R2 := fun x y H Q => ∃ a b xs, x = .ref a ∧ y = .ref b ∧ SqT K H a xs ∧ SqT K H b [] ∧ Q (.bl (!xs.isEmpty)) H
theorem size_empty {xs : List V} {its : List Value} (r : Vals xs its) : (((List.range (min its.toArray.size (#[] : Array Value).size)).all fun _ => true) && its.toArray.size == (#[] : Array Value).size) = xs.isEmpty := by
  have := r.length
  cases xs with
  | nil => cases r; rfl
  | cons x xs => cases r; rfl
theorem op_eqT0 (hu : X.A.units + 64 < cLine) : OpR X (compareOp .Eq) (rEqT0 X.K) := by
  intro pins s σ H x y v u Q I rx ry h
  obtain ⟨a, b, xs, rfl, rfl, ha, hb, q⟩ := h
  cases rx
  cases ry
  obtain ⟨its, r, ht, _⟩ := I.tuple ha
  obtain ⟨its2, r2, ht2, _⟩ := I.tuple hb
  cases r2
  refine SeqAt.eq_tupleAt (e := fun _ => true) (items := its.toArray) (items2 := #[]) ht (show IsTup s.heap b #[] by simpa using ht2) (by omega) (fun j h1 h2 => absurd h2 (by simp)) ?_
  rw [size_empty r]
  exact ⟨.bl _, H, I, rfl, q⟩
theorem op_neT0 (hu : X.A.units + 64 < cLine) : OpR X (compareOp .NotEq) (rNeT0 X.K) := by
  intro pins s σ H x y v u Q I rx ry h
  obtain ⟨a, b, xs, rfl, rfl, ha, hb, q⟩ := h
  cases rx
  cases ry
  obtain ⟨its, r, ⟨⟨cls, dd, data, sl⟩, ho, hc, n, hd⟩, _⟩ := I.tuple ha
  obtain ⟨its2, r2, ⟨⟨cls2, dd2, data2, sl2⟩, ho2, hc2, n2, hd2⟩, _⟩ := I.tuple hb
  cases r2
  simp only at hc hd hc2 hd2
  subst hc hd hc2 hd2
  refine richCompare_meets_room (op := .NotEq) ⟨_, ho, rfl⟩ ⟨_, ho2, rfl⟩ PySem.F.slot_tuple_ne PySem.F.entry_tuple_ne (PySem.F.args_tuple_ne_2 _ _) (SeqAt.tuple_neAt a b its.toArray #[] n n2 dd dd2 sl sl2 fun _ => true)
    ⟨ho, by simpa using ho2, fun j h1 h2 => absurd h2 (by simp), ?_⟩ (by omega)
  rw [size_empty r]
  exact ⟨(fun x => nomatch x), ⟨.bl _, H, I, rfl, q⟩⟩
end
section
variable {K : Fg}
theorem reps_empty {H : Hp} {M : Mem} {ds : List D} {vs : List V} (r : Reps K H M ds vs) : vs.isEmpty = ds.isEmpty := by
  have := r.length
  cases ds <;> cases vs <;> simp_all
theorem rf_eqT0 : RefR K (rEqT0 K.K) oEqT0 := fun x y H M dx dy Q Q' rx ry m q l => by
  unfold oEqT0 at q
  split at q
  · obtain ⟨a, vs, rfl, h, r⟩ := rx
    obtain ⟨b, us, rfl, h2, r2⟩ := ry
    cases r2
    exact ⟨a, b, vs, rfl, rfl, h.sq, h2.sq, by rw [reps_empty r]; exact finB l m q⟩
  · exact q.elim
theorem rf_neT0 : RefR K (rNeT0 K.K) oNeT0 := fun x y H M dx dy Q Q' rx ry m q l => by
  unfold oNeT0 at q
  split at q
  · obtain ⟨a, vs, rfl, h, r⟩ := rx
    obtain ⟨b, us, rfl, h2, r2⟩ := ry
    cases r2
    exact ⟨a, b, vs, rfl, rfl, h.sq, h2.sq, by rw [reps_empty r]; exact finB l m q⟩
  · exact q.elim
theorem reps_rev {H : Hp} {M : Mem} : ∀ {ds : List D} {vs : List V}, Reps K H M ds vs → Reps K H M ds.reverse vs.reverse
  | [], _, h => by cases h; exact rfl
  | d :: ds, _, ⟨v, r, e, h, q⟩ => by
    subst e
    rw [List.reverse_cons, List.reverse_cons]
    exact (reps_rev q).snoc h
theorem ref_rev {te : TE} {t : DE} (h1 : Ref K te t) : Ref K (tRevT K.K te) (dUn oRev t) := fun σ H ρ M Q Q' s q l =>
  h1 σ H ρ M _ _ s q fun v H1 d M1 f1 r1 m1 q1 => by
    unfold oRev at q1
    split at q1
    · obtain ⟨a, vs, rfl, h, r⟩ := r1
      exact ⟨a, vs, rfl, h.sq, fun p hp => l _ _ _ _ (f1.trans (Fr.new hp)) (rep_newT m1 hp (reps_rev r)) (m1.new hp) q1⟩
    · exact q1.elim
theorem ref_dict0 : Ref K tDNewK dDict0 := fun σ H ρ M Q Q' s q l => fun p hp =>
  l _ _ (.dK [] []) _ (Fr.new hp) ⟨p, [], rfl, ⟨upd_same, s.mem.free hp, s.mem.nprv hp⟩, rfl, rfl⟩ (s.mem.new hp) q
theorem ref_callD {n : Nat} {sp : Spec} {tA : TA} {dA' : DA} {j : Nat} {dd : List D} {dvs : List V} (h : RefA K j tA dA') (hj : j + dd.length = n) (hd : ∀ H M, Reps K H M dd dvs) : Ref K (tCall (toSp K.K n sp) dvs E0 tA) (dCallD sp dd dA') := fun σ H ρ M Q Q' s q l =>
  h σ H ρ M _ _ s q fun vs H1 ds M1 f1 r1 n1 m1 q1 => ⟨K.P, ds ++ dd, M1, r1.append (hd H1 M1), by rw [List.length_append, n1, hj], m1, q1.1, fun d M' hp v H' f r m => l v H' d M' (f1.trans f) r m (q1.2 d M' hp)⟩
end
section
variable {X : Cx} {pos : Pos} {k : Nat}
theorem re_rev {e : Expr} {te : TE} {t : DE} {j : Nat} {p1 p2 p3 : Pos} (K0 : PySem.W.Frag) (h : RE X e te t) (hK : X.K = K0 := by rfl) : RE X (.Subscript e (.Slice none none (some (.UnaryOp .USub (.Constant (.int 1) j p1) p2)) p3) pos) (tRevT K0 te) (dUn oRev t) := by
  subst hK
  exact ⟨pe_revT h.pe, fun P => ref_rev (K := ⟨X.K, P⟩) (h.rf P)⟩
theorem c_eqT0 (K0 : PySem.W.Frag) (hr : Room k X.A) (hK : X.K = K0 := by rfl) : CM X .Eq (rEqT0 K0) oEqT0 := by
  subst hK
  exact ⟨op_eqT0 hr.units, fun P => rf_eqT0⟩
theorem c_neT0 (K0 : PySem.W.Frag) (hr : Room k X.A) (hK : X.K = K0 := by rfl) : CM X .NotEq (rNeT0 K0) oNeT0 := by
  subst hK
  exact ⟨op_neT0 hr.units, fun P => rf_neT0⟩
theorem re_dict0 : RE X (.Dict [] [] pos) tDNewK dDict0 := ⟨pe_dnewK, fun P => ref_dict0⟩
end
def dv0 : D → V
  | .bl b => .bl b
  | .int i => .int i
  | .str x => .str x
  | _ => .non
/-- a def that is called with j of its n arguments, the others its own -/
def FnD (P : Program) (w : World) (K : PySem.W.Frag) (mg : Str → Option Value) (base : Heap) (k : Nat) (x : Str) (n : Nat) (dd : List D) (sp : Spec) : Prop :=
  ∃ (f : Addr) (fd : FuncData) (ps : List Str) (ds : List Value), FnOk P w K mg base CX0 k f fd ps (toSp K n sp) ∧ mg x = some (.ref f) ∧ PySem.W.keepIn K (.ref f) = true ∧ Binds K fd ps ds ∧ Vals (dd.map dv0) ds ∧ ∀ Pr H M, Reps ⟨K, Pr⟩ H M dd (dd.map dv0)
theorem FnD.mono {P : Program} {w : World} {K : PySem.W.Frag} {mg : Str → Option Value} {base : Heap} {j k : Nat} {x : Str} {n : Nat} {dd : List D} {sp : Spec} (c : FnD P w K mg base j x n dd sp) (h : j ≤ k) : FnD P w K mg base k x n dd sp := by
  obtain ⟨f, fd, ps, ds, h1, h2⟩ := c
  exact ⟨f, fd, ps, ds, h1.mono h, h2⟩
theorem re_fnD {X : Cx} {p pos : Pos} {e : Expr} {es : List Expr} {tA : TA} {dA' : DA} {k n : Nat} {sp : Spec} {dd : List D} {x : Str} (K0 : PySem.W.Frag) (c : FnD X.prog X.w X.K X.mg X.base k x n dd sp) (hr : Room k X.A) (hg : Gl X x)
    (h : RA X (e :: es) tA dA') (hn : (e :: es).length + dd.length = n := by rfl) (hdb : (x == ("__debug__" : Str)) = false := by decide) (he : starEach (e :: es) X.env = (false, eval e X.env) :: starEach es X.env := by rfl) (hpl : (backTo pos (starEach es X.env)).any (·.1) = false := by rfl) (hK : X.K = K0 := by rfl) :
    RE X (.Call (.Name x p) (e :: es) [] pos) (tCall (toSp K0 n sp) (dd.map dv0) E0 tA) (dCallD sp dd dA') := by
  subst hK
  obtain ⟨f, fd, ps, ds, h1, h2, h3, h4, h5, h6⟩ := c
  exact ⟨pe_call h1 hr hg h2 h3 h4 h5 pass0 h.pa hdb he hpl, fun P => ref_callD (K := ⟨X.K, P⟩) (h.rf P) hn (h6 P)⟩
end DL
/-! DLW: dicts of the memory, extend -/
namespace DL
open PySem PySem.Spec PyProof.Rows L2
section
variable {K : Fg}
theorem asK_rep {H : Hp} {M : Mem} {d : D} {x : V} {ks : List Key} {ds : List D} (m : MRep K H M) (r : Rep K H M d x) (e : asK M d = some (ks, ds)) : ∃ a vs, x = .ref a ∧ H a = some (.dK (ks.zip vs)) ∧ ks.length = vs.length ∧ Reps K H M ds vs := by
  cases d with
  | dK k2 d2 =>
    cases e
    obtain ⟨a, vs, rfl, ⟨ha, _⟩, hl, rs⟩ := r
    exact ⟨a, vs, rfl, ha, hl, rs⟩
  | ref a =>
    cases r
    simp only [asK] at e
    cases q : M a with
    | none => rw [q] at e; cases e
    | some o =>
      rw [q] at e
      cases o with
      | dK k2 d2 =>
        cases e
        obtain ⟨vs, h1, h2, h3⟩ := m.obj a _ q
        exact ⟨a, vs, rfl, h1, h2, h3⟩
      | _ => cases e
  | _ => cases e
theorem valD_none : ∀ (ks : List Key) {ds : List D} {k : Key}, ks.length = ds.length → valD ks ds k = none → k ∉ ks
  | [], ds, k, _, _ => by simp
  | a :: ks, [], k, h, _ => by simp at h
  | a :: ks, d :: ds, k, h, e => by
    simp only [valD] at e
    by_cases q : a = k
    · rw [if_pos q] at e; cases e
    · rw [if_neg q] at e
      have := valD_none ks (by simpa using h) e
      simp only [List.mem_cons, not_or]
      exact ⟨fun z => q z.symm, this⟩
theorem ref_newD : Ref K tDNewK dNewD := fun σ H ρ M Q Q' s q l => fun p hp =>
  l _ _ (.ref p) _ (Fr.newM hp) rfl (s.mem.newM (u := .dK [] []) hp ⟨[], upd_same, rfl, rfl⟩) (q p (s.mem.free hp))
theorem ref_ixD {td ty : TE} {dd dy : DE} (h1 : Ref K td dd) (h2 : Ref K ty dy) : Ref K (tDGet td ty) (dOp oIxD dd dy) := fun σ H ρ M Q Q' s q l =>
  h1 σ H ρ M _ _ s q fun v1 H1 d1 M1 f1 r1 m1 q1 => h2 σ H1 ρ M1 _ _ (s.step f1 m1) q1 fun v2 H2 d2 M2 f2 r2 m2 q2 => by
    unfold oIxD at q2
    split at q2
    · rename_i ks ds k e1 e2
      obtain ⟨a, vs, rfl, ha, hl, rs⟩ := asK_rep m2 (r1.mono f2) e1
      have e3 := keyOf_rep r2 e2
      subst e3
      rcases valD_rep ks k rs hl with ⟨e4, e5⟩ | ⟨d, v, e4, e5, rv⟩
      · rw [e4] at q2; exact q2.elim
      · rw [e4] at q2
        refine ⟨a, v, rfl, ?_, l v H2 d M2 (f1.trans f2) rv m2 q2⟩
        rw [← e5]
        exact DGet.k ha
    · exact q2.elim
def rInD : L2.R2 := fun y x H Q => ∃ a o, x = .ref a ∧ DGet H a y o ∧ Q (.bl o.isSome) H
def rNotInD : L2.R2 := fun y x H Q => ∃ a o, x = .ref a ∧ DGet H a y o ∧ Q (.bl (!o.isSome)) H
theorem op_inD {X : Cx} (hu : X.A.units + 1 < cLine) : OpR X (compareOp .In) rInD := by
  intro pins s σ H y x v u Q I ry rx h
  obtain ⟨a, o, rfl, g, q⟩ := h
  obtain rfl : u = Value.ref a := rx
  exact d_in hu I g ry fun s3 I3 => ⟨.bl o.isSome, H, I3, rfl, q⟩
theorem op_notInD {X : Cx} (hu : X.A.units + 1 < cLine) : OpR X (compareOp .NotIn) rNotInD := by
  intro pins s σ H y x v u Q I ry rx h
  obtain ⟨a, o, rfl, g, q⟩ := h
  obtain rfl : u = Value.ref a := rx
  exact d_notIn hu I g ry fun s3 I3 => ⟨.bl (!o.isSome), H, I3, rfl, q⟩
theorem val_some {H : Hp} {M : Mem} {ks : List Key} {ds : List D} {vs : List V} {k : Key} (rs : Reps K H M ds vs) (hl : ks.length = vs.length) : (valV (ks.zip vs) k).isSome = (valD ks ds k).isSome := by
  rcases valD_rep ks k rs hl with ⟨e4, e5⟩ | ⟨d, v, e4, e5, rv⟩
  · rw [e4, e5]; rfl
  · rw [e4, e5]; rfl
theorem rf_inD : RefR K rInD oInD := fun y x H M dy dx Q Q' ry rx m q l => by
  unfold oInD at q
  split at q
  · rename_i ks ds k e1 e2
    obtain ⟨a, vs, rfl, ha, hl, rs⟩ := asK_rep m rx e1
    have e3 := keyOf_rep ry e2
    subst e3
    exact ⟨a, _, rfl, DGet.k ha, by rw [val_some rs hl]; exact finB l m q⟩
  · exact q.elim
theorem rf_notInD : RefR K rNotInD oNotInD := fun y x H M dy dx Q Q' ry rx m q l => by
  unfold oNotInD at q
  split at q
  · rename_i ks ds k e1 e2
    obtain ⟨a, vs, rfl, ha, hl, rs⟩ := asK_rep m rx e1
    have e3 := keyOf_rep ry e2
    subst e3
    exact ⟨a, _, rfl, DGet.k ha, by rw [val_some rs hl]; exact finB l m q⟩
  · exact q.elim
abbrev rLenD : List V → Hp → VK → Prop := fun xs H Q => ∃ a kvs, xs = [.ref a] ∧ Rd H a (.dK kvs) ∧ Q (.int (kvs.length : Nat)) H
theorem call_lenD {X : Cx} : CallR X (.builtin "len") rLenD := by
  intro pins s σ H xs us Q I r h
  obtain ⟨a, kvs, rfl, e, q⟩ := h
  obtain ⟨u, rfl, ru⟩ := r.one
  cases ru
  exact d_len I e fun t s' I' => ⟨.int _, H, I', ⟨t, rfl⟩, q⟩
theorem rf_lenD : RefR1 K rLenD oLenD := fun x H M dx Q Q' rx m q l => by
  unfold oLenD at q
  split at q
  · rename_i ks ds e1
    obtain ⟨a, vs, rfl, ha, hl, rs⟩ := asK_rep m rx e1
    refine ⟨a, _, rfl, .inl ha, ?_⟩
    have : (ks.zip vs).length = ks.length := by rw [List.length_zip]; omega
    rw [this]
    exact l _ H (.int _) M (Fr.refl H M) rfl m q
  · exact q.elim
theorem ref_setd {td ty tz : TE} {dd dy dz : DE} (h1 : Ref K td dd) (h2 : Ref K ty dy) (h3 : Ref K tz dz) : Ref K (tDSetd td ty tz) (dSetd dd dy dz) := fun σ H ρ M Q Q' s q l =>
  h1 σ H ρ M _ _ s q fun v1 H1 d1 M1 f1 r1 m1 q1 => by
    obtain ⟨hk, q1⟩ := q1
    cases e1 : asK M1 d1 with
    | none => rw [e1] at hk; cases hk
    | some p =>
      obtain ⟨ks1, ds1⟩ := p
      obtain ⟨a, vs1, rfl, ha1, _, _⟩ := asK_rep m1 r1 e1
      refine ⟨a, rfl, .inl ⟨_, .inl ha1⟩, ?_⟩
      refine h2 σ H1 ρ M1 _ _ (s.step f1 m1) q1 fun v2 H2 d2 M2 f2 r2 m2 q2 => ?_
      refine h3 σ H2 ρ M2 _ _ (s.step (f1.trans f2) m2) q2 fun v3 H3 d3 M3 f3 r3 m3 q3 => ?_
      have F : Fr H M H3 M3 := (f1.trans f2).trans f3
      split at q3
      · rename_i a' k e2
        cases r1
        have e3 := keyOf_rep (r2.mono f3) e2
        subst e3
        split at q3
        · rename_i ks ds em
          obtain ⟨vs, ha, hl, rs⟩ := m3.obj _ _ em
          obtain ⟨hlt, q3⟩ := q3
          have hz : (ks.zip vs).length = ks.length := by rw [List.length_zip]; omega
          refine ⟨_, k, ha, rfl, szLt (by rw [hz]; exact hlt), fun v hv => ?_, fun hv => ?_⟩
          · rcases valD_rep ks k rs hl with ⟨e4, e5⟩ | ⟨d, w, e4, e5, rv⟩
            · rw [e5] at hv; cases hv
            · rw [e4] at q3
              rw [e5] at hv
              cases hv
              exact l _ H3 d M3 F rv m3 q3
          · rcases valD_rep ks k rs hl with ⟨e4, e5⟩ | ⟨d, w, e4, e5, rv⟩
            · rw [e4] at q3
              have hn : k ∉ ks := valD_none ks (by rw [hl]; exact rs.length.symm) e4
              rw [put_new ks vs k v3 hn hl]
              refine l _ _ d3 _ (F.trans (Fr.write em)) (r3.mono (Fr.write em)) (m3.write (u := .dK (ks ++ [k]) (ds ++ [d3])) em (fun _ z => nomatch z) ⟨vs ++ [v3], upd_same, by simp [hl], (rs.snoc r3).mono (Fr.write em)⟩) q3
            · rw [e5] at hv; cases hv
        · exact q3.elim
      · exact q3.elim
theorem refS_putD {td ty tv : TE} {dd dy dv : DE} (h1 : Ref K td dd) (h2 : Ref K ty dy) (h3 : Ref K tv dv) : RefS K (sDPut td ty tv) (sPutD dd dy dv) := fun σ H ρ M E E' s q l => by
  refine h3 σ H ρ M _ _ s q fun v H1 d M1 f1 r1 m1 q1 => ?_
  refine h1 σ H1 ρ M1 _ _ (s.step f1 m1) q1 fun v2 H2 d2 M2 f2 r2 m2 q2 => ?_
  refine h2 σ H2 ρ M2 _ _ (s.step (f1.trans f2) m2) q2 fun v3 H3 d3 M3 f3 r3 m3 q3 => ?_
  have F : Fr H M H3 M3 := (f1.trans f2).trans f3
  split at q3
  · rename_i a k e2
    cases r2
    have e3 := keyOf_rep r3 e2
    subst e3
    split at q3
    · rename_i ks ds em
      obtain ⟨vs, ha, hl, rs⟩ := m3.obj _ _ em
      obtain ⟨hn, hlt, q3⟩ := q3
      have hz : (ks.zip vs).length = ks.length := by rw [List.length_zip]; omega
      have W : MRep K (upd H3 a (.dK ((ks ++ [k]).zip (vs ++ [v])))) (mset M3 a (.dK (ks ++ [k]) (ds ++ [d]))) := m3.write em (fun _ z => nomatch z) ⟨vs ++ [v], upd_same, by simp [hl], (rs.snoc ((r1.mono f2).mono f3)).mono (Fr.write em)⟩
      refine ⟨a, _, rfl, DPut.k ha (szLt (by rw [hz]; exact hlt)), ?_⟩
      rw [put_new ks vs k v hn hl]
      exact l.nx _ _ _ _ (F.trans (Fr.write em)) (s.step (F.trans (Fr.write em)) W) q3
    · exact q3.elim
  · exact q3.elim
theorem rm_extend : ∀ x y H M dx dy Q Q', Rep K H M dx x → Rep K H M dy y → MRep K H M → mExtend dx dy M Q → Lift K H M Q Q' → rExtend x [y] H Q' := fun x y H M dx dy Q Q' rx ry m q l => by
  unfold mExtend at q
  split at q
  · rename_i a ys
    cases rx
    split at q
    · rename_i xs e
      obtain ⟨vs, hv, rv⟩ := mt_lst m e
      obtain ⟨b, us, rfl, ⟨hb, _⟩, ru⟩ := ry
      refine ⟨a, b, vs, us, rfl, rfl, hv, hb, szLe (by rw [← rv.length, ← ru.length]; exact q.1), ?_⟩
      exact l _ _ .non _ (Fr.write e) rfl (mrep_write (ws := vs) m e (rv.append ru)) q.2
    · exact q.elim
  · exact q.elim
end
section
variable {X : Cx} {pos : Pos} {k : Nat} {o e f i : Expr} {td ty tz te to : TE} {dd dy dz t do' : DE}
theorem re_newD : RE X (.Dict [] [] pos) tDNewK dNewD := ⟨pe_dnewK, fun P => ref_newD⟩
theorem re_ixD (hr : Room k X.A) (ho : RE X o td dd) (hi : RE X i ty dy) (hs : NoSl i := by intro _ _; rfl) : RE X (.Subscript o i pos) (tDGet td ty) (dOp oIxD dd dy) :=
  ⟨pe_dget (by have := hr.un; omega) ho.pe hi.pe hs, fun P => ref_ixD (ho.rf P) (hi.rf P)⟩
theorem c_inD (hr : Room k X.A) : CM X .In rInD oInD := ⟨op_inD (by have := hr.un; omega), fun P => rf_inD⟩
theorem c_notInD (hr : Room k X.A) : CM X .NotIn rNotInD oNotInD := ⟨op_notInD (by have := hr.un; omega), fun P => rf_notInD⟩
theorem b_lenD : B1 X (.builtin "len") rLenD oLenD := ⟨call_lenD, fun P => rf_lenD⟩
theorem re_setd {apos cpos : Pos} (ho : RE X o td dd) (he : RE X e ty dy) (hf : RE X f tz dz) (hbase : attributeBase o "setdefault" X.env (eval o X.env) = eval o X.env := by rfl)
    (hfew : ((backTo cpos (starEach [e, f] X.env)).all (fun x => !x.1) && (backToKw cpos (keywordEach [] X.env)).all (fun x => x.1.isSome)
      && decide (([e, f] : List Expr).length + ([] : List Keyword).length + (if ([] : List Keyword).isEmpty then 0 else 1) < 30)) = true := by rfl)
    (hline : (apos.endLine == cpos.line) = true := by rfl) (htrees : backTo cpos (starEach [e, f] X.env) = [(false, eval e X.env), (false, eval f X.env)] := by rfl) :
    RE X (.Call (.Attribute o "setdefault" apos) [e, f] [] cpos) (tDSetd td ty tz) (dSetd dd dy dz) :=
  ⟨pe_dsetd ho.pe he.pe hf.pe ⟨hbase, hfew, hline, htrees⟩, fun P => ref_setd (ho.rf P) (he.rf P) (hf.rf P)⟩
theorem rs_putD {pos' : Pos} (hr : Room k X.A) (ho : RE X o td dd) (hi : RE X i ty dy) (hv : RE X e tz dz) (hs : swapsWith e (some (.Subscript o i pos')) pos.line X.env = pure false := by rfl) :
    RS X (.Assign [.Subscript o i pos'] e pos) (sDPut td ty tz) (sPutD dd dy dz) := ⟨ps_dput (by have := hr.un; omega) ho.pe hi.pe hv.pe hs, fun P => refS_putD (ho.rf P) (hi.rf P) (hv.rf P)⟩
theorem re_extend {apos cpos : Pos} (K0 : PySem.W.Frag) (ho : RE X o to do') (h : RE X e te t) (hbase : attributeBase o "extend" X.env (eval o X.env) = eval o X.env := by rfl)
    (hfew : ((backTo cpos (starEach [e] X.env)).all (fun x => !x.1) && (backToKw cpos (keywordEach [] X.env)).all (fun x => x.1.isSome)
      && decide ([e].length + ([] : List Keyword).length + (if ([] : List Keyword).isEmpty then 0 else 1) < 30)) = true := by rfl)
    (hline : (apos.endLine == cpos.line) = true := by rfl) (hs : starEach [e] X.env = (false, eval e X.env) :: starEach [] X.env := by rfl) (hplain : (backTo cpos (starEach [] X.env)).any (·.1) = false := by rfl) (hK : X.K = K0 := by rfl) :
    RE X (.Call (.Attribute o "extend" apos) [e] [] cpos) (tBM K0 "list" rExtend to (tCons te tNil)) (dMeth mExtend do' t) := by
  subst hK
  exact ⟨pe_bm PySem.F.plainAttrs_list PySem.F.slot_list_extend PySem.F.type_list_extend mt_extend ho.pe (pa_cons h.pe pa_nil hs) hbase hfew hline hs hplain, fun P => ref_meth (K := ⟨X.K, P⟩) rm_extend (ho.rf P) (h.rf P)⟩
end
section
variable {X : Cx} {pos : Pos}
theorem rs_setLcN {tg iter : Expr} {wi : TI} {ti : DI} {tt : TT} {te : TE} {vs : List Nat} {i : Nat} {y : Str} {py spos : Pos} {elt : Expr} {ifs : List Expr} {scope : Scope} {own : List (Str × Nat)} {g : TG} {dg : DG} {db : DT} {de : DE} (hc : X.calm = true) (hN : X.N.Nodup) (hy : X.N[i]? = some y) (hyl : X.env.scope.names.lookup y = some .local)
    (hsw : swapsWith (.ListComp elt [⟨tg, iter, ifs, 0⟩] scope pos) (some (.Name y py)) spos.line X.env = pure true) (hi : RI X tg iter wi ti) (ok : BlkOk X.N X.env.scope scope own)
    (hg : ∀ (s : Shared) (H : Hp) (C : Addr) (cl : List (Str × Addr)) (fp : List Addr), RG (X.blk s H scope (compEnvC scope cl C X.env) fp) tg g dg) (ho : Own vs g)
    (ht : ∀ (s : Shared) (H : Hp) (C : Addr) (cl : List (Str × Addr)) (fp : List Addr), RTs (X.blk s H scope (compEnvC scope cl C X.env) fp) ifs tt db)
    (he : ∀ (s : Shared) (H : Hp) (C : Addr) (cl : List (Str × Addr)) (fp : List Addr), RE (X.blk s H scope (compEnvC scope cl C X.env) fp) elt te de) (hvs : own.map (·.2) = vs := by rfl) (hs : ∀ x, foldedSetIterable iter X.env x = pure x := by intro _; rfl) :
    RS X (.Assign [.Name y py] (.ListComp elt [⟨tg, iter, ifs, 0⟩] scope pos) spos) (tAsg (tLc wi g tt te vs) (L2.gName i)) (sAsg (dCompN ti dg db de vs) (DL.gName i)) := by
  subst hvs
  exact ⟨ps_setLc hc hN hy hyl hsw hi.pi ok (fun s H C cl fp => (hg s H C cl fp).pg) (fun s H C cl fp => (ht s H C cl fp).pt) (fun s H C cl fp => (he s H C cl fp).pe) hs,
    fun P => refS_asg (ref_compN (K := ⟨X.K, P⟩) (hi.rf P) (fun P' => (hg X.s_0 X.H_0 0 [] []).rf P') ho (fun P' => (ht X.s_0 X.H_0 0 [] []).rf P') fun P' => (he X.s_0 X.H_0 0 [] []).rf P') (refG_name i)⟩
end
end DL
/-! DLY: rows that are known to be plain, dicts of them -/
namespace DL
open PySem PySem.Spec PyProof.Rows L2
/-- what stands in K is no row -/
def NoTup (K : PySem.W.Frag) : Prop := ∀ a o, K.lookup a = some o → o.cls ≠ .type "tuple"
section
variable {X : Cx}
abbrev rTupP (K : PySem.W.Frag) : List V → Hp → VK → Prop := fun xs H Q => ∃ p ys, xs = [.ref p] ∧ SqL K H p ys ∧ ∀ l o, H l = none → o.dict = none → Q (.ref l) (upd H l (.frz o (.tup ys)))
theorem call_tupP : CallR X (.type "tuple") (rTupP X.K) := by
  intro pins s σ H xs us Q I r h
  obtain ⟨p, ys, rfl, hq, q⟩ := h
  obtain ⟨u, rfl, rx⟩ := vals1 r
  cases rx
  obtain ⟨its, r', pl, hz⟩ := I.list hq
  have hlen := r'.length
  refine call_tuple_list pl.isList (fun h' kp => ?_) (by simp only [List.size_toArray] <;> omega)
  have I1 : Inv X pins σ H { s with heap := h' } := I.kept (t' := s.toks) kp
  have ok : ObjOk X.prog X.w (upd H h'.objs.size (.frz { cls := .type "tuple", data := .seq its.toArray } (.tup ys))) (h'.push { cls := .type "tuple", data := .seq its.toArray }) h'.objs.size (.frz { cls := .type "tuple", data := .seq its.toArray } (.tup ys)) :=
    ⟨Heap.get?_push_size _ rfl, hz, its, r', IsTup.new _ _⟩
  exact ⟨.ref h'.objs.size, _, I1.laid (t' := s.toks) (fun b o e => Heap.get?_push_of_some _ e) (Nat.le_refl _) ok, rfl, q _ _ (I1.hok.fresh (Nat.le_refl _)) rfl⟩
/-- the pairs of a row -/
def Prs (K : PySem.W.Frag) (H : Hp) (ps : List Addr) (kvs : List (List Key × Addr × V)) : Prop := Paired (fun p kv => SqT K H p [.ref kv.2.1, kv.2.2] ∧ H kv.2.1 = some (.tup (kv.1.map kV))) ps kvs
theorem prs_at {pins : List (Addr × Obj)} {σ : L2.St} {H : Hp} {s : Shared} (I : Inv X pins σ H s) : ∀ {ps : List Addr} {kvs : List (List Key × Addr × V)}, Prs X.K H ps kvs →
    ∃ prs : List (List Key × Addr × Value), Paired (fun (kv : List Key × Addr × V) (q : List Key × Addr × Value) => kv.1 = q.1 ∧ kv.2.1 = q.2.1 ∧ RelV kv.2.2 q.2.2) kvs prs ∧ prs.length = ps.length ∧ ∀ (j : Nat) (q : List Key × Addr × Value), prs[j]? = some q → ∃ b, ps[j]? = some b ∧ IsTup s.heap b #[.ref q.2.1, q.2.2]
  | _, _, .nil => ⟨[], .nil, rfl, fun j q e => by simp at e⟩
  | _, _, .cons (a := p) (b := kv) h t => by
    obtain ⟨prs, r, hl, hp⟩ := prs_at I t
    obtain ⟨its, rv, ht, _⟩ := I.tuple h.1
    obtain ⟨u, y, ei, ru, ry⟩ := vals2 rv
    subst ei
    cases ru
    refine ⟨(kv.1, kv.2.1, y) :: prs, .cons ⟨rfl, rfl, ry⟩ r, by rw [List.length_cons, List.length_cons, hl], fun j q e => ?_⟩
    cases j with
    | zero =>
      have e' : (kv.1, kv.2.1, y) = q := Option.some.inj e
      subst e'
      exact ⟨p, rfl, ht⟩
    | succ j =>
      obtain ⟨b, e1, e2⟩ := hp j q (by simpa using e)
      exact ⟨b, by simpa using e1, e2⟩
abbrev rDictT (K : PySem.W.Frag) : List V → Hp → VK → Prop := fun xs H Q => ∃ (a : Addr) (o : Obj) (ps : List Addr) (kvs : List (List Key × Addr × V)), xs = [.ref a] ∧ H a = some (.frz o (.tup (ps.map V.ref))) ∧ o.dict = none ∧ Prs K H ps kvs ∧ (kvs.map (·.1)).Nodup ∧
  ∀ p, H p = none → Q (.ref p) (upd H p (.dT (kvs.map fun q => (q.1, q.2.2))))
theorem prs_keys {H H' : Hp} {kvs : List (List Key × Addr × V)} {prs : List (List Key × Addr × Value)} : Paired (fun (kv : List Key × Addr × V) (q : List Key × Addr × Value) => kv.1 = q.1 ∧ kv.2.1 = q.2.1 ∧ RelV kv.2.2 q.2.2) kvs prs → (∀ kv ∈ kvs, H' kv.2.1 = some (.tup (kv.1.map kV))) →
    Paired (fun (p : List Key × V) (q : List Key × Addr × Value) => p.1 = q.1 ∧ H' q.2.1 = some (.tup (p.1.map kV)) ∧ RelV p.2 q.2.2) (kvs.map fun q => (q.1, q.2.2)) prs := by
  intro r
  induction r with
  | nil => intro _; exact .nil
  | @cons p q ps qs h t ih =>
    intro hk
    rw [List.map_cons]
    exact .cons ⟨h.1, by rw [← h.2.1]; exact hk p (by simp), h.2.2⟩ (ih fun kv hkv => hk kv (List.mem_cons_of_mem _ hkv))
theorem prs_map {kvs : List (List Key × Addr × V)} {prs : List (List Key × Addr × Value)} (r : Paired (fun (kv : List Key × Addr × V) (q : List Key × Addr × Value) => kv.1 = q.1 ∧ kv.2.1 = q.2.1 ∧ RelV kv.2.2 q.2.2) kvs prs) : prs.map (·.1) = kvs.map (·.1) ∧ prs.map (·.2.1) = kvs.map (·.2.1) := by
  induction r with
  | nil => exact ⟨rfl, rfl⟩
  | @cons p q ps qs h t ih => exact ⟨by rw [List.map_cons, List.map_cons, ih.1, h.1], by rw [List.map_cons, List.map_cons, ih.2, h.2.1]⟩
theorem prs_mem {K : PySem.W.Frag} {H : Hp} {ps : List Addr} {kvs : List (List Key × Addr × V)} (r : Prs K H ps kvs) : ∀ kv ∈ kvs, H kv.2.1 = some (.tup (kv.1.map kV)) := by
  unfold Prs at r
  induction r with
  | nil => intro kv h; cases h
  | @cons p q ps qs h t ih =>
    intro kv hkv
    rcases List.mem_cons.mp hkv with rfl | hkv
    · exact h.2
    · exact ih kv hkv
theorem paired_mem {α β : Type} {F : α → β → Prop} {l : List α} {m : List β} (r : Paired F l m) : ∀ y ∈ m, ∃ x ∈ l, F x y := by
  induction r with
  | nil => intro y h; cases h
  | @cons p q ps qs h t ih =>
    intro y hy
    rcases List.mem_cons.mp hy with rfl | hy
    · exact ⟨p, by simp, h⟩
    · obtain ⟨x, hx, hf⟩ := ih y hy
      exact ⟨x, List.mem_cons_of_mem _ hx, hf⟩
theorem call_dictT (hcalm : X.calm = true) (hu : X.A.units + 2 < cLine) : CallR X (.type "dict") (rDictT X.K) := by
  intro pins s σ H xs us Q I r h
  obtain ⟨a, o, ps, kvs, rfl, ha, hod, hp, hn, q⟩ := h
  obtain ⟨u, rfl, rx⟩ := vals1 r
  cases rx
  obtain ⟨he, hz, its, rv, ⟨o', he', hc, n, hd⟩⟩ := (show ObjOk X.prog X.w H s.heap a (.frz o (.tup (ps.map V.ref))) from I.hok a _ ha)
  rw [he] at he'
  cases he'
  have ei := refs_at rv
  subst ei
  rw [List.length_map] at hz
  obtain ⟨prs, rel, hl, hpr⟩ := prs_at I hp
  have hm := prs_map rel
  refine call_dict_pairsH (knd := tupleKind (mixKind X.prog X.w)) (ps := prs) (PairArg.tuple a (ps.map Value.ref).toArray (fun j => (ps[j]?).getD 0) (prs.map fun q => (.ref q.2.1, q.2.2))) (I.ok.hd hcalm) hu
    ⟨⟨o, n, he, hc, hod, hd⟩, by simp [hl], fun j k v e => ?_⟩ ⟨by simp, fun i key v e => ?_⟩ (fun h' kp x hx => ?_) (by rw [List.length_map, hl]; exact hz) fun h' tk hd' kp => ?_
  · rw [List.getElem?_map] at e
    cases e1 : prs[j]? with
    | none => rw [e1] at e; cases e
    | some q1 =>
      rw [e1] at e
      cases e
      obtain ⟨b, hb, ht⟩ := hpr j q1 e1
      exact ⟨by simp [hb], .inl (by show s.heap.IsTuple ((ps[j]?).getD 0) _; rw [hb]; exact ht)⟩
  · have e' : (prs.map fun q => ((Value.ref q.2.1 : Value), q.2.2))[i]? = some (key, v) := e
    rw [List.getElem?_map] at e'
    cases e1 : prs[i]? with
    | none => rw [e1] at e'; cases e'
    | some q1 =>
      rw [e1] at e'
      cases e'
      exact ⟨q1.1, q1.2.1, rfl, rfl⟩
  · obtain ⟨kv, hkv, h1, h2, _⟩ := paired_mem rel x hx
    have hk := prs_mem hp kv hkv
    have hi := key_of I.hok hk
    rw [← h1, ← h2]
    obtain ⟨ob, items, m, e1, e2⟩ := hi
    exact ⟨ob, items, m, kp _ _ (Nat.ne_of_lt (Heap.lt_size e1)) (by simp) e1, e2⟩
  · have hst : storedAllH [] prs = prs := storedAllH_nil_of_nodup prs (by rw [hm.1]; exact hn)
    rw [hst] at hd'
    have hfr := I.hok.fresh (Nat.le_refl s.heap.objs.size)
    obtain ⟨ob, es, ep, g1, g2, g3, g4, _, g5⟩ := hd'
    have hlen : (kvs.map fun q : List Key × Addr × V => (q.1, q.2.2)).length ≤ sizeLine := by
      rw [List.length_map, Paired.length rel, hl]
      exact hz
    have new : ObjOk X.prog X.w (upd H s.heap.objs.size (.dT (kvs.map fun q => (q.1, q.2.2)))) h' s.heap.objs.size (.dT (kvs.map fun q => (q.1, q.2.2))) :=
      ⟨hlen, beq_eq_false_iff_ne.mpr (Nat.ne_of_gt I.big), prs, prs_keys (H := H) rel (fun kv hkv => by
        have hk := prs_mem hp kv hkv
        rw [upd_ne (ne_of_none hk hfr)]
        exact hk), ob, es, ep, g1, g2, g3, g4, g5⟩
    exact ⟨.ref s.heap.objs.size, _, I.laid (t' := tk) (fun b o e => kp b o (by simp) e) (Nat.le_refl _) new, rfl, q _ hfr⟩
end
section
variable {K : Fg}
theorem sub_mdel {M : Mem} {p : Addr} {xs : List D} (h : M p = some (.tupP xs)) : Sub (mdel M p) M := fun b => by
  by_cases e : b = p
  · subst e
    exact .inr ⟨if_pos rfl, by rw [h]; exact True.intro⟩
  · exact .inl (if_neg e)
theorem rf_tupP : RefR1 K (rTupP K.K) oTupP := fun x H M dx Q Q' rx m q l => by
  unfold oTupP at q
  cases e : asL M dx with
  | none => rw [e] at q; exact q.elim
  | some xs =>
    rw [e] at q
    obtain ⟨a, vs, rfl, hq, r⟩ := asL_rep m rx e
    exact ⟨a, vs, rfl, hq, fun p o hp ho => l _ _ (.ref p) _ (Fr.newM hp) rfl (m.newM (u := .tupP xs) hp ⟨vs, o, upd_same, ho, r.mono (Fr.newM hp)⟩) (q p (m.free hp))⟩
theorem refI_seqP {ta : TE} {t : DE} (h : Ref K ta t) : RefI K (DLE.iAny K.K ta) (iSeqP t) := fun σ H ρ M R R' s q l =>
  h σ H ρ M _ _ s q fun v H1 d M1 f1 r1 m1 q1 => by
    cases d with
    | ref p =>
      cases r1
      cases e : M1 p with
      | none => simp only [e] at q1
      | some o =>
        cases o with
        | tupP xs =>
          simp only [e] at q1
          obtain ⟨vs, o, hf, _, r⟩ := m1.obj p _ e
          have S := sub_mdel e
          have F : Fr H1 M1 H1 (mdel M1 p) := Fr.sub S
          have hp : mdel M1 p p = none := if_pos rfl
          exact .inr (.inl ⟨p, rfl, ⟨vs, .inl (.inr ⟨o, hf⟩)⟩, l _ H1 xs (mdel M1 p) (f1.trans F) (m1.sub S) (gives_tup (fun H' M' f => .inl (.inr ⟨o, (f _ _ hf hp).1⟩)) (r.mono F)) q1⟩)
        | _ => simp only [e] at q1
    | _ => exact q1.elim
theorem keysOf_rep {H : Hp} {M : Mem} : ∀ {ds : List D} {vs : List V} {ks : List Key}, Reps K H M ds vs → keysOf ds = some ks → vs = ks.map kV
  | [], _, ks, r, e => by
    cases e
    exact r
  | d :: ds, _, ks, ⟨v, t, ev, hr, rt⟩, e => by
    subst ev
    simp only [keysOf] at e
    cases e1 : keyOf d with
    | none => rw [e1] at e; cases e
    | some k =>
      cases e2 : keysOf ds with
      | none => rw [e1, e2] at e; cases e
      | some kk =>
        rw [e1, e2] at e
        cases e
        rw [keyOf_rep hr e1, keysOf_rep rt e2]
        rfl
theorem tup_dyn {H : Hp} {M : Mem} {a : Addr} {xs : List V} (nt : NoTup K.K) (h : TqT K H M a xs) : H a = some (.tup xs) := by
  rcases h with h | ⟨o, its, n, h1, h2, _⟩
  · exact h.1
  · exact (nt _ _ h1 h2).elim
theorem pairsT_rep {H : Hp} {M : Mem} (nt : NoTup K.K) : ∀ (xs : List D) {vs : List V} {ks : List (List Key)} {ds : List D}, Reps K H M xs vs → pairsT xs = some (ks, ds) →
    ∃ (ps : List Addr) (kvs : List (List Key × Addr × V)), vs = ps.map V.ref ∧ Prs K.K H ps kvs ∧ kvs.map (·.1) = ks ∧ Reps K H M ds (kvs.map (·.2.2))
  | [], _, ks, ds, r, e => by
    cases e
    exact ⟨[], [], r, .nil, rfl, rfl⟩
  | x :: xs, _, ks, ds, ⟨v, t, ev, hr, rt⟩, e => by
    subst ev
    unfold pairsT at e
    split at e
    · rename_i h; cases h
    · rename_i k w xs' h
      simp only [List.cons.injEq] at h
      obtain ⟨rfl, rfl⟩ := h
      cases e1 : keysOf k with
      | none => rw [e1] at e; cases e
      | some kk =>
        cases e2 : pairsT xs with
        | none => rw [e1, e2] at e; cases e
        | some z =>
          obtain ⟨kss, dss⟩ := z
          rw [e1, e2] at e
          cases e
          obtain ⟨ps, kvs, rfl, hp, hk, hd⟩ := pairsT_rep nt xs rt e2
          obtain ⟨a, us, rfl, hq, u1, r1, rfl, hu1, u2, r2, rfl, hu2, hu3⟩ := hr
          cases hu3
          obtain ⟨b, bs, rfl, hb, rb⟩ := hu1
          have hbs := keysOf_rep rb e1
          subst hbs
          exact ⟨a :: ps, (kk, b, u2) :: kvs, rfl, .cons ⟨hq.sq, tup_dyn nt hb⟩ hp, by rw [List.map_cons, hk], u2, _, rfl, hu2, hd⟩
    · cases e
theorem zip_maps (kvs : List (List Key × Addr × V)) : (kvs.map fun q => (q.1, q.2.2)) = (kvs.map (·.1)).zip (kvs.map (·.2.2)) := by
  induction kvs with
  | nil => rfl
  | cons q kvs ih => rw [List.map_cons, ih]; rfl
theorem rf_dictP (nt : NoTup K.K) : RefR1 K (rDictT K.K) oDictP := fun x H M dx Q Q' rx m q l => by
  unfold oDictP at q
  split at q
  · rename_i p
    cases rx
    split at q
    · rename_i xs e
      split at q
      · rename_i ks ds e2
        obtain ⟨⟨hn, _⟩, q⟩ := q
        obtain ⟨vs, o, hf, ho, r⟩ := m.obj p _ e
        obtain ⟨ps, kvs, rfl, hp, hk, hd⟩ := pairsT_rep nt xs r e2
        have S := sub_mdel e
        have F : Fr H M H (mdel M p) := Fr.sub S
        have m2 := m.sub S
        refine ⟨p, o, ps, kvs, rfl, hf, ho, hp, by rw [hk]; exact hn, fun c hc => ?_⟩
        rw [zip_maps, hk]
        exact l _ _ (.dT ks ds) _ (F.trans (Fr.new hc)) ⟨c, kvs.map (·.2.2), rfl, ⟨upd_same, m2.free hc, m2.nprv hc⟩, by rw [← hk, List.length_map, List.length_map], (hd.mono F).mono (Fr.new hc)⟩ (m2.new hc) q
      · exact q.elim
    · exact q.elim
  · exact q.elim
theorem valT_rep {H : Hp} {M : Mem} : ∀ (ks : List (List Key)) {ds : List D} {vs : List V} (k : List Key), Reps K H M ds vs → ks.length = vs.length →
    (valT ks ds k = none ∧ valV (ks.zip vs) k = none) ∨ ∃ d v, valT ks ds k = some d ∧ valV (ks.zip vs) k = some v ∧ Rep K H M d v
  | [], ds, vs, k, r, hl => by
    refine .inl ⟨by cases ds <;> rfl, by rw [List.zip_nil_left]; rfl⟩
  | a :: ks, [], vs, k, r, hl => by
    rw [show vs = [] from r] at hl
    cases hl
  | a :: ks, d :: ds, _, k, ⟨v, t, rfl, hr, rt⟩, hl => by
    simp only [valT, List.zip_cons_cons]
    by_cases e : a = k
    · rw [if_pos e, valV_pos e]
      exact .inr ⟨d, v, rfl, rfl, hr⟩
    · rw [if_neg e, valV_neg e]
      exact valT_rep ks k rt (by simpa using hl)
theorem ref_getT {td ty tz : TE} {dd dy dz : DE} (nt : NoTup K.K) (h1 : Ref K td dd) (h2 : Ref K ty dy) (h3 : Ref K tz dz) : Ref K (tDGet2 td ty tz) (dGetT dd dy dz) := fun σ H ρ M Q Q' s q l =>
  h1 σ H ρ M _ _ s q fun v1 H1 d1 M1 f1 r1 m1 q1 => by
    cases d1 with
    | dT ks ds =>
      obtain ⟨a, vs, rfl, ⟨ha, ma, pa⟩, hl, rs⟩ := r1
      refine ⟨a, rfl, .inr ⟨_, .inl ha⟩, ?_⟩
      refine h2 σ H1 ρ M1 _ _ (s.step f1 m1) q1 fun v2 H2 d2 M2 f2 r2 m2 q2 => ?_
      refine h3 σ H2 ρ M2 _ _ (s.step (f1.trans f2) m2) q2 fun v3 H3 d3 M3 f3 r3 m3 q3 => ?_
      have F : Fr H1 M1 H3 M3 := f2.trans f3
      cases d2 with
      | tup k =>
        cases ek : keysOf k with
        | none => simp only [ek] at q3
        | some kk =>
          simp only [ek] at q3
          obtain ⟨b, bs, rfl, hb, rb⟩ := r2.mono f3
          have hbs := keysOf_rep rb ek
          subst hbs
          refine ⟨_, DGet.t (F a _ ha ma).1 (tup_dyn nt hb), ?_⟩
          rcases valT_rep ks kk (rs.mono F) hl with ⟨e1, e2⟩ | ⟨d, v, e1, e2, rv⟩
          · rw [e1] at q3
            rw [e2]
            exact l _ H3 d3 M3 (f1.trans F) r3 m3 q3
          · rw [e1] at q3
            rw [e2]
            exact l _ H3 d M3 (f1.trans F) rv m3 q3
      | _ => exact q3.elim
    | _ => exact False.elim q1
end
section
variable {X : Cx} {pos : Pos} {k : Nat}
theorem b_tupP (K0 : PySem.W.Frag) (hK : X.K = K0 := by rfl) : B1 X (.type "tuple") (rTupP K0) oTupP := by
  subst hK
  exact ⟨call_tupP, fun P => rf_tupP⟩
theorem b_dictP (K0 : PySem.W.Frag) (nt : NoTup K0) (hc : X.calm = true) (hr : Room k X.A) (hK : X.K = K0 := by rfl) : B1 X (.type "dict") (rDictT K0) oDictP := by
  subst hK
  exact ⟨call_dictT hc (by have := hr.un; omega), fun P => rf_dictP nt⟩
theorem ri_seqP {tg e : Expr} {te : TE} {t : DE} (K0 : PySem.W.Frag) (h : RE X e te t) (hK : X.K = K0 := by rfl) : RI X tg e (DLE.iAny K0 te) (iSeqP t) := by
  subst hK
  exact ⟨DLE.pi_any h.pe, fun P => refI_seqP (K := ⟨X.K, P⟩) (h.rf P)⟩
theorem re_getT {o e f : Expr} {apos cpos : Pos} {td ty tz : TE} {dd dy dz : DE} (nt : NoTup X.K) (hr : Room k X.A) (ho : RE X o td dd) (he : RE X e ty dy) (hf : RE X f tz dz) (hbase : attributeBase o "get" X.env (eval o X.env) = eval o X.env := by rfl)
    (hfew : ((backTo cpos (starEach [e, f] X.env)).all (fun x => !x.1) && (backToKw cpos (keywordEach [] X.env)).all (fun x => x.1.isSome)
      && decide (([e, f] : List Expr).length + ([] : List Keyword).length + (if ([] : List Keyword).isEmpty then 0 else 1) < 30)) = true := by rfl)
    (hline : (apos.endLine == cpos.line) = true := by rfl) (htrees : backTo cpos (starEach [e, f] X.env) = [(false, eval e X.env), (false, eval f X.env)] := by rfl) :
    RE X (.Call (.Attribute o "get" apos) [e, f] [] cpos) (tDGet2 td ty tz) (dGetT dd dy dz) :=
  ⟨pe_dget2 (by have := hr.un; omega) ho.pe he.pe hf.pe ⟨hbase, hfew, hline, htrees⟩, fun P => ref_getT (K := ⟨X.K, P⟩) nt (ho.rf P) (he.rf P) (hf.rf P)⟩
end
end DL
namespace DL
open PySem
/-! ### texts -/
theorem strOk_of (s : String) : strOk (Str.ofString s) = true := by
  unfold strOk
  rw [Str.ofString_eq_toList]
  show ((s.toList.map Char.toNat).toArray).all _ = true
  rw [List.all_toArray, List.all_eq_true]
  intro x hx
  obtain ⟨c, _, rfl⟩ := List.mem_map.mp hx
  have h := c.valid
  simp only [UInt32.isValidChar, Nat.isValidChar] at h
  have e : c.toNat = c.val.toNat := rfl
  rw [e, decide_eq_true_eq]
  omega
theorem strOk_add {a b : Str} (h1 : strOk a = true) (h2 : strOk b = true) : strOk (a ++ b) = true := by
  unfold strOk at *
  show (a.cps ++ b.cps).all _ = true
  rw [Array.all_append, h1, h2]
  rfl
/-- a text that is short -/
def nmOk (x : Str) : Bool := strOk x && decide (x.length ≤ 100)
theorem nm_str {x : Str} (h : nmOk x = true) : strOk x = true := by
  simp only [nmOk, Bool.and_eq_true] at h
  exact h.1
theorem nm_len {x : Str} (h : nmOk x = true) : x.length ≤ 100 := by
  simp only [nmOk, Bool.and_eq_true, decide_eq_true_eq] at h
  exact h.2
theorem nm_of (s : String) (h : (Str.ofString s).length ≤ 100 := by decide +kernel) : nmOk (Str.ofString s) = true := by
  simp [nmOk, strOk_of, h]
/-! ### sayings -/
inductive Say where
  | name (x : Str) | made (h : Str) (ps : List Say) | call (h : Str) (ps : List Say) | either (a b : Say) | same (a b : Say) | skip
mutual
def Say.d : Say → D
  | .name x => .tup [.str "name", .str x]
  | .made h ps => .tup [.str "made", .str h, .tup (says ps)]
  | .call h ps => .tup [.str "call", .str h, .tup (says ps)]
  | .either a b => .tup [.str "either", a.d, b.d]
  | .same a b => .tup [.str "same", a.d, b.d]
  | .skip => .tup [.str "skip"]
def says : List Say → List D
  | [] => []
  | s :: r => s.d :: says r
end
theorem says_length : ∀ ps : List Say, (says ps).length = ps.length
  | [] => rfl
  | _ :: r => by simp only [says, List.length_cons, says_length r]
mutual
theorem Say.d_inj : ∀ {s t : Say}, s.d = t.d → s = t
  | .name x, t, h => by cases t <;> simp_all [Say.d, ofString_inj]
  | .skip, t, h => by cases t <;> simp_all [Say.d, ofString_inj]
  | .made x ps, t, h => by
    cases t <;> simp [Say.d, ofString_inj] at h
    rw [h.1, says_inj h.2]
  | .call x ps, t, h => by
    cases t <;> simp [Say.d, ofString_inj] at h
    rw [h.1, says_inj h.2]
  | .either a b, t, h => by
    cases t <;> simp [Say.d, ofString_inj] at h
    rw [Say.d_inj h.1, Say.d_inj h.2]
  | .same a b, t, h => by
    cases t <;> simp [Say.d, ofString_inj] at h
    rw [Say.d_inj h.1, Say.d_inj h.2]
theorem says_inj : ∀ {ss ts : List Say}, says ss = says ts → ss = ts
  | [], [], _ => rfl
  | [], _ :: _, h => by simp [says] at h
  | _ :: _, [], h => by simp [says] at h
  | s :: ss, t :: ts, h => by
    simp only [says, List.cons.injEq] at h
    rw [Say.d_inj h.1, says_inj h.2]
end
theorem one_inj {s t : Say} (h : [s.d] = [t.d]) : t = s := (Say.d_inj (List.cons.inj h).1).symm
def Say.parts : Say → List Say
  | .made _ ps => ps
  | .call _ ps => ps
  | .either a b => [a, b]
  | .same a b => [a, b]
  | _ => []
mutual
/-- how many nodes stand within one another -/
def Say.deep : Say → Nat
  | .name _ => 1
  | .skip => 1
  | .made _ ps => deeps ps + 1
  | .call _ ps => deeps ps + 1
  | .either a b => max a.deep b.deep + 1
  | .same a b => max a.deep b.deep + 1
def deeps : List Say → Nat
  | [] => 0
  | s :: r => max s.deep (deeps r)
end
mutual
def Say.size : Say → Nat
  | .name _ => 1
  | .skip => 1
  | .made _ ps => sizes ps + 1
  | .call _ ps => sizes ps + 1
  | .either a b => a.size + b.size + 1
  | .same a b => a.size + b.size + 1
def sizes : List Say → Nat
  | [] => 0
  | s :: r => s.size + sizes r
end
mutual
/-- texts are texts, three parts at most -/
def Say.ok : Say → Bool
  | .name x => nmOk x
  | .skip => true
  | .made h ps => nmOk h && decide (ps.length ≤ 3) && oks ps
  | .call h ps => nmOk h && decide (ps.length ≤ 3) && oks ps
  | .either a b => a.ok && b.ok
  | .same a b => a.ok && b.ok
def oks : List Say → Bool
  | [] => true
  | s :: r => s.ok && oks r
end
/-- how many nodes there may be -/
def Z : Nat → Nat
  | 0 => 0
  | n + 1 => 3 * Z n + 1
theorem Z_mono {m n : Nat} (h : m ≤ n) : Z m ≤ Z n := by
  induction n generalizing m with
  | zero => rw [Nat.le_zero.mp h]; exact Nat.le_refl _
  | succ n ih =>
    cases m with
    | zero => exact Nat.zero_le _
    | succ m =>
      have := ih (Nat.le_of_succ_le_succ h)
      simp only [Z]
      omega
mutual
theorem size_le : ∀ s : Say, s.ok = true → s.size ≤ Z s.deep
  | .name _, _ => by simp [Say.size, Say.deep, Z]
  | .skip, _ => by simp [Say.size, Say.deep, Z]
  | .made h ps, o => by
    simp only [Say.ok, Bool.and_eq_true, decide_eq_true_eq] at o
    have := sizes_le ps o.2
    simp only [Say.size, Say.deep, Z]
    have h2 : ps.length * Z (deeps ps) ≤ 3 * Z (deeps ps) := Nat.mul_le_mul_right _ o.1.2
    omega
  | .call h ps, o => by
    simp only [Say.ok, Bool.and_eq_true, decide_eq_true_eq] at o
    have := sizes_le ps o.2
    simp only [Say.size, Say.deep, Z]
    have h2 : ps.length * Z (deeps ps) ≤ 3 * Z (deeps ps) := Nat.mul_le_mul_right _ o.1.2
    omega
  | .either a b, o => by
    simp only [Say.ok, Bool.and_eq_true] at o
    have h1 := size_le a o.1
    have h2 := size_le b o.2
    have z1 := Z_mono (Nat.le_max_left a.deep b.deep)
    have z2 := Z_mono (Nat.le_max_right a.deep b.deep)
    simp only [Say.size, Say.deep, Z]
    omega
  | .same a b, o => by
    simp only [Say.ok, Bool.and_eq_true] at o
    have h1 := size_le a o.1
    have h2 := size_le b o.2
    have z1 := Z_mono (Nat.le_max_left a.deep b.deep)
    have z2 := Z_mono (Nat.le_max_right a.deep b.deep)
    simp only [Say.size, Say.deep, Z]
    omega
theorem sizes_le : ∀ ps : List Say, oks ps = true → sizes ps ≤ ps.length * Z (deeps ps)
  | [], _ => by simp [sizes]
  | s :: r, o => by
    simp only [oks, Bool.and_eq_true] at o
    have h1 := size_le s o.1
    have h2 := sizes_le r o.2
    have z1 := Z_mono (Nat.le_max_left s.deep (deeps r))
    have z2 := Z_mono (Nat.le_max_right s.deep (deeps r))
    simp only [sizes, deeps, List.length_cons]
    have h3 : r.length * Z (deeps r) ≤ r.length * Z (max s.deep (deeps r)) := Nat.mul_le_mul_left _ z2
    rw [Nat.add_mul]
    omega
end
theorem size_of {s : Say} {n : Nat} (o : s.ok = true) (h : s.deep ≤ n) : s.size ≤ Z n := Nat.le_trans (size_le s o) (Z_mono h)
theorem oks_parts {s : Say} (o : s.ok = true) : oks s.parts = true := by
  cases s <;> simp_all [Say.ok, Say.parts, oks]
theorem parts3 {s : Say} (o : s.ok = true) : s.parts.length ≤ 3 := by
  cases s <;> simp_all [Say.ok, Say.parts]
theorem deep_parts (s : Say) : deeps s.parts + 1 = s.deep := by
  cases s <;> simp [Say.parts, Say.deep, deeps]
theorem size_parts (s : Say) : sizes s.parts + 1 = s.size := by
  cases s <;> simp [Say.parts, Say.size, sizes]
  all_goals omega
theorem deeps_cons (s : Say) (r : List Say) : deeps (s :: r) = max s.deep (deeps r) := by simp [deeps]
mutual
/-- data of a saying may be compared -/
theorem plain_d : ∀ s : Say, s.ok = true → plain s.d = true
  | .name x, o => by simp only [Say.ok] at o; simp [Say.d, plain, plains, strOk_of, nm_str o]
  | .skip, _ => by simp [Say.d, plain, plains, strOk_of]
  | .made h ps, o => by
    simp only [Say.ok, Bool.and_eq_true] at o
    simp [Say.d, plain, plains, strOk_of, nm_str o.1.1, plains_d ps o.2]
  | .call h ps, o => by
    simp only [Say.ok, Bool.and_eq_true] at o
    simp [Say.d, plain, plains, strOk_of, nm_str o.1.1, plains_d ps o.2]
  | .either a b, o => by
    simp only [Say.ok, Bool.and_eq_true] at o
    simp [Say.d, plain, plains, strOk_of, plain_d a o.1, plain_d b o.2]
  | .same a b, o => by
    simp only [Say.ok, Bool.and_eq_true] at o
    simp [Say.d, plain, plains, strOk_of, plain_d a o.1, plain_d b o.2]
theorem plains_d : ∀ ps : List Say, oks ps = true → plains (says ps) = true
  | [], _ => by simp [says, plains]
  | s :: r, o => by
    simp only [oks, Bool.and_eq_true] at o
    simp [says, plains, plain_d s o.1, plains_d r o.2]
end
mutual
theorem depth_d : ∀ s : Say, depth s.d ≤ 2 * s.deep + 1
  | .name x => by simp [Say.d, depth, depths, Say.deep]
  | .skip => by simp [Say.d, depth, depths, Say.deep]
  | .made h ps => by
    have := depths_d ps
    simp only [Say.d, depth, depths, Say.deep]
    omega
  | .call h ps => by
    have := depths_d ps
    simp only [Say.d, depth, depths, Say.deep]
    omega
  | .either a b => by
    have h1 := depth_d a
    have h2 := depth_d b
    simp only [Say.d, depth, depths, Say.deep]
    omega
  | .same a b => by
    have h1 := depth_d a
    have h2 := depth_d b
    simp only [Say.d, depth, depths, Say.deep]
    omega
theorem depths_d : ∀ ps : List Say, depths (says ps) ≤ 2 * deeps ps + 1
  | [] => by simp [says, depths]
  | s :: r => by
    have h1 := depth_d s
    have h2 := depths_d r
    simp only [says, depths, deeps]
    omega
end
end DL
section
namespace DL
open PySem
def t_parts_of : DS :=
  (sSeq (sIf (dTest (dOp oIn (dOp oIx (dV 0) (dC (.int 0))) (dTup (dA (dC (.str "made")) (dA (dC (.str "call")) dA0))))) (sRet (dOp oIx (dV 0) (dC (.int 2)))) sNext)
  (sSeq (sIf (dTest (dOp oIn (dOp oIx (dV 0) (dC (.int 0))) (dTup (dA (dC (.str "either")) (dA (dC (.str "same")) dA0))))) (sRet (dCut (dV 0) (dPart (dC (.int 1))) dNoPart)) sNext)
  (sRet (dTup dA0))))
def t_rebuilt : DS :=
  (sSeq (sIf (dTest (dOp oIn (dOp oIx (dV 0) (dC (.int 0))) (dTup (dA (dC (.str "made")) (dA (dC (.str "call")) dA0))))) (sRet (dTup (dA (dOp oIx (dV 0) (dC (.int 0))) (dA (dOp oIx (dV 0) (dC (.int 1))) (dA (dUn oTuple (dV 1)) dA0))))) sNext)
  (sSeq (sIf (dTest (dOp oIn (dOp oIx (dV 0) (dC (.int 0))) (dTup (dA (dC (.str "either")) (dA (dC (.str "same")) dA0))))) (sRet (dOp oAdd (dTup (dA (dOp oIx (dV 0) (dC (.int 0))) dA0)) (dUn oTuple (dV 1)))) sNext)
  (sRet (dV 0))))
def t_add_nodes (sp_parts_of : Spec) (sp_add_nodes : Spec) : DS :=
  (sSeq (sExpr (dMeth mAppend (dV 0) (dTup (dA (dV 1) (dA (dV 2) dA0)))))
  (sFor (iEnum (dCall sp_parts_of (dA (dV 2) dA0))) (gTup (gCons (gName 3) (gCons (gName 4) gNil))) (sExpr (dCall sp_add_nodes (dA (dV 0) (dA (dOp oAdd (dV 1) (dTup (dA (dV 3) dA0))) (dA (dV 4) dA0)))))))
def t_nodes_of (sp_add_nodes : Spec) : DS :=
  (sSeq (sAsg (dNew dA0) (gName 1))
  (sSeq (sExpr (dCall sp_add_nodes (dA (dV 1) (dA (dTup dA0) (dA (dV 0) dA0)))))
  (sRet (dUn oTupP (dV 1)))))
def t_names_of (sp_nodes_of : Spec) : DS :=
  (sSeq (sAsg (dNew dA0) (gName 1))
  (sSeq (sFor (iSeqP (dCall sp_nodes_of (dA (dV 0) dA0))) (gTup (gCons (gName 2) (gCons (gName 3) gNil))) (sIf (dAnd (dTest (dOp oEq (dOp oIx (dV 3) (dC (.int 0))) (dC (.str "name")))) (dTest (dOp oNotIn (dOp oIx (dV 3) (dC (.int 1))) (dV 1)))) (sExpr (dMeth mAppend (dV 1) (dOp oIx (dV 3) (dC (.int 1))))) sNext))
  (sRet (dUn oTuple (dV 1)))))
def t_filled_by (sp_rebuilt : Spec) (sp_parts_of : Spec) (sp_filled_by : Spec) : DS :=
  (sSeq (sIf (dTest (dOp oEq (dOp oIx (dV 0) (dC (.int 0))) (dC (.str "name")))) (sRet (dGet2 (dV 1) (dOp oIx (dV 0) (dC (.int 1))) (dV 0))) sNext)
  (sRet (dCall sp_rebuilt (dA (dV 0) (dA (dComp (iSeq (dCall sp_parts_of (dA (dV 0) dA0))) (gName 2) dYes (dCall sp_filled_by (dA (dV 2) (dA (dV 1) dA0))) [2]) dA0)))))
def t_filled (sp_filled_by : Spec) : DS :=
  (sRet (dCall sp_filled_by (dA (dV 0) (dA (dDComp (iSeq (dV 1)) (gTup (gCons (gName 2) (gCons (gName 3) gNil))) dYes (dV 2) (dV 3) [2, 3]) dA0))))
def t_fitted (sp_fitted : Spec) : DS :=
  (sSeq (sIf (dTest (dOp oEq (dOp oIx (dV 0) (dC (.int 0))) (dC (.str "name")))) (sRet (dTup (dA (dTup (dA (dOp oIx (dV 0) (dC (.int 1))) (dA (dV 1) dA0))) dA0))) sNext)
  (sSeq (sIf (dOr (dTest (dOp oNe (dOp oIx (dV 1) (dC (.int 0))) (dC (.str "made")))) (dOr (dTest (dOp oNe (dOp oIx (dV 1) (dC (.int 1))) (dOp oIx (dV 0) (dC (.int 1))))) (dTest (dOp oNe (dUn oLen (dOp oIx (dV 1) (dC (.int 2)))) (dUn oLen (dOp oIx (dV 0) (dC (.int 2)))))))) (sRet (dC .non)) sNext)
  (sSeq (sAsg (dTup dA0) (gName 2))
  (sSeq (sFor (iZip (dOp oIx (dV 0) (dC (.int 2))) (dOp oIx (dV 1) (dC (.int 2)))) (gTup (gCons (gName 3) (gCons (gName 4) gNil))) (sSeq (sAsg (dCall sp_fitted (dA (dV 3) (dA (dV 4) dA0))) (gName 5))
  (sSeq (sIf (dTest (dUn oIsN (dV 5))) (sRet (dC .non)) sNext)
  (sAsg (dOp oAdd (dV 2) (dV 5)) (gName 2)))))
  (sRet (dV 2))))))
def t__law_deck : DS :=
  (sSeq (sAsg (dNew dA0) (gName 1))
  (sSeq (sAsg (dNew (dA (dUn oLen (dV 0)) dA0)) (gName 2))
  (sSeq (sFor (iSeq (dCut (dV 0) dNoPart (dPart (dC (.int 63))))) (gName 3) (sSeq (sAsg (dUn oAbs (dV 3)) (gName 3))
  (sSeq (sExpr (dMeth mAppend (dV 2) (dOp oMod (dV 3) (dC (.int 2147483629)))))
  (sWhile (dAnd (dTest (dOp oGe (dV 3) (dOp oPow (dC (.int 10)) (dC (.int 18))))) (dTest (dOp oLt (dUn oLen (dV 1)) (dC (.int 900))))) (sSeq (sExpr (dMeth mAppend (dV 1) (dOp oMod (dV 3) (dC (.int 2147483629)))))
  (sAsg (dOp oFdiv (dV 3) (dC (.int 2147483629))) (gName 3)))))))
  (sRet (dNew (dA (dV 1) (dA (dV 2) (dA (dC (.int 0)) dA0))))))))
def t__law_next : DS :=
  (sSeq (sIf (dTest (dOp oNe (dOp oIx (dV 0) (dC (.int 0))) (dLst dA0))) (sRet (dMeth mPopAt (dOp oIx (dV 0) (dC (.int 0))) (dC (.int 0)))) sNext)
  (sSeq (sAsg (dOp oIx (dV 0) (dC (.int 2))) (gName 1))
  (sSeq (sAsg (dOp oAdd (dV 1) (dC (.int 1))) (gSub (dV 0) (dC (.int 2))))
  (sSeq (sAsg (dOp oAdd (dOp oIx (dOp oIx (dV 0) (dC (.int 1))) (dOp oMod (dOp oAdd (dV 1) (dC (.int 1))) (dUn oLen (dOp oIx (dV 0) (dC (.int 1)))))) (dOp oMul (dC (.int 7)) (dV 1))) (gName 2))
  (sRet (dOp oMod (dOp oAdd (dOp oMod (dOp oPow (dOp oAdd (dV 2) (dOp oMul (dC (.int 48271)) (dOp oAdd (dV 1) (dC (.int 1))))) (dC (.int 5))) (dC (.int 2147483647))) (dOp oMul (dC (.int 69621)) (dV 2))) (dC (.int 2147483629))))))))
def t__law_same (sp__law_same : Spec) : DS :=
  (sSeq (sIf (dTest (dUn (oIsi "tuple") (dV 1))) (sSeq (sIf (dOr (dNot (dTest (dUn (oIsi "tuple") (dV 0)))) (dTest (dOp oNe (dUn oLen (dV 0)) (dUn oLen (dV 1))))) (sRet (dC (.bl false))) sNext)
  (sRet (dUn oAll (dComp (iZip (dV 0) (dV 1)) (gTup (gCons (gName 2) (gCons (gName 3) gNil))) dYes (dCall sp__law_same (dA (dV 2) (dA (dV 3) dA0))) [2, 3])))) sNext)
  (sSeq (sIf (dTest (dUn oIsN (dV 1))) (sRet (dUn oIsN (dV 0))) sNext)
  (sSeq (sIf (dOr (dTest (dUn (oIsi "bool") (dV 1))) (dTest (dUn (oIsi "bool") (dV 0)))) (sRet (dAndV (dUn (oIsi "bool") (dV 1)) (dAndV (dUn (oIsi "bool") (dV 0)) (dOp oEq (dV 0) (dV 1))))) sNext)
  (sSeq (sIf (dOr (dTest (dUn (oIsi "str") (dV 1))) (dTest (dUn (oIsi "str") (dV 0)))) (sRet (dAndV (dUn (oIsi "str") (dV 1)) (dAndV (dUn (oIsi "str") (dV 0)) (dOp oEq (dV 0) (dV 1))))) sNext)
  (sRet (dAndV (dUn (oIsi "int") (dV 0)) (dOp oEq (dV 0) (dV 1))))))))
def t__law_letters (sp__law_next : Spec) : DS :=
  (sSeq (sAsg (dCall sp__law_next (dA (dV 0) dA0)) (gName 2))
  (sSeq (sAsg (dC (.str "")) (gName 3))
  (sSeq (sFor (iRange (dOp oAdd (dC (.int 1)) (dOp oMod (dV 2) (dV 1)))) (gName 4) (sAsg (dOp oAdd (dV 3) (dOp oIx (dC (.str "abcdefghijklmnopqrstuvwxyz")) (dOp oMod (dCall sp__law_next (dA (dV 0) dA0)) (dC (.int 26))))) (gName 3)))
  (sRet (dV 3)))))
def t__law_name (sp__law_letters : Spec) (sp__law_next : Spec) : DS :=
  (sSeq (sAsg (dCall sp__law_next (dA (dV 0) dA0)) (gName 1))
  (sSeq (sAsg (dLst (dA (dC (.str "a")) (dA (dC (.str "b")) (dA (dC (.str "ab")) (dA (dC (.str "ba")) (dA (dC (.str "kin")) (dA (dC (.str "sam")) (dA (dC (.str "eithers")) (dA (dC (.str "yes")) dA0))))))))) (gName 2))
  (sSeq (sIf (dTest (dOp oLt (dOp oMod (dV 1) (dC (.int 8))) (dC (.int 4)))) (sRet (dOp oIx (dV 2) (dOp oMod (dOp oFdiv (dV 1) (dC (.int 8))) (dC (.int 8))))) sNext)
  (sSeq (sIf (dTest (dOp oEq (dOp oMod (dV 1) (dC (.int 8))) (dC (.int 4)))) (sRet (dUn oStr (dOp oAdd (dC (.int 1)) (dOp oMod (dOp oFdiv (dV 1) (dC (.int 8))) (dC (.int 999)))))) sNext)
  (sSeq (sAsg (dCall sp__law_letters (dA (dV 0) (dA (dC (.int 8)) dA0))) (gName 3))
  (sRet (dOp oIx (dLst (dA (dV 3) (dA (dC (.str "z")) dA0))) (dUn oInt (dOp oIn (dV 3) (dLst (dA (dC (.str "kind")) (dA (dC (.str "def")) (dA (dC (.str "either")) (dA (dC (.str "same")) (dA (dC (.str "truth")) dA0)))))))))))))))
def t__law_any_3 (sp__law_any : Spec) (sp__law_name : Spec) (sp__law_next : Spec) : DS :=
  (sSeq (sIf (dTest (dOp oEq (dV 4) (dC (.str "skip")))) (sRet (dTup (dA (dC (.str "skip")) dA0))) sNext)
  (sSeq (sIf (dTest (dOp oEq (dV 4) (dC (.str "name")))) (sRet (dTup (dA (dC (.str "name")) (dA (dCall sp__law_name (dA (dV 0) dA0)) dA0)))) sNext)
  (sSeq (sIf (dTest (dOp oIn (dV 4) (dLst (dA (dC (.str "either")) (dA (dC (.str "same")) dA0))))) (sSeq (sAsg (dCall sp__law_any (dA (dV 0) (dA (dV 1) (dA (dOp oSub (dV 2) (dC (.int 1))) dA0)))) (gName 5))
  (sRet (dTup (dA (dV 4) (dA (dV 5) (dA (dCall sp__law_any (dA (dV 0) (dA (dV 1) (dA (dOp oSub (dV 2) (dC (.int 1))) dA0)))) dA0)))))) sNext)
  (sSeq (sAsg (dOp oMul (dOp oIx (dLst (dA (dC (.int 0)) (dA (dC (.int 1)) (dA (dC (.int 1)) (dA (dC (.int 2)) (dA (dC (.int 2)) (dA (dC (.int 3)) dA0))))))) (dOp oMod (dOp oFdiv (dV 3) (dC (.int 16))) (dC (.int 6)))) (dUn oInt (dOp oGt (dV 2) (dC (.int 1))))) (gName 6))
  (sSeq (sAsg (dOp oIx (dLst (dA (dC (.str "yes")) (dA (dC (.str "no")) (dA (dC (.str "nought")) (dA (dC (.str "next")) (dA (dC (.str "pair")) (dA (dC (.str "leaf")) (dA (dC (.str "plus")) dA0)))))))) (dOp oMod (dOp oFdiv (dV 3) (dC (.int 96))) (dC (.int 7)))) (gName 7))
  (sRet (dTup (dA (dV 4) (dA (dV 7) (dA (dUn oTuple (dComp (iRange (dV 6)) (gName 8) dYes (dCall sp__law_any (dA (dV 0) (dA (dV 1) (dA (dOp oSub (dV 2) (dC (.int 1))) dA0)))) [8])) dA0))))))))))
def t__law_any (sp__law_any : Spec) (sp__law_name : Spec) (sp__law_next : Spec) : DS :=
  (sSeq (sAsg (dCall sp__law_next (dA (dV 0) dA0)) (gName 3))
  (sSeq (sAsg (dOp oIx (dV 1) (dOp oMod (dV 3) (dUn oLen (dV 1)))) (gName 4))
  (sSeq (sIf (dAnd (dTest (dOp oLt (dV 2) (dC (.int 2)))) (dTest (dOp oNotIn (dV 4) (dLst (dA (dC (.str "name")) (dA (dC (.str "skip")) dA0)))))) (sAsg (dOp oIx (dLst (dA (dC (.str "name")) (dA (dC (.str "made")) dA0))) (dUn oInt (dOrV (dOp oNotIn (dC (.str "name")) (dV 1)) (dOp oEq (dOp oMod (dOp oFdiv (dV 3) (dC (.int 8))) (dC (.int 2))) (dC (.int 0)))))) (gName 4)) sNext)
  (t__law_any_3 sp__law_any sp__law_name sp__law_next))))
def t__law_unlike (sp__law_unlike : Spec) : DS :=
  (sSeq (sIf (dTest (dOp oEq (dOp oIx (dV 0) (dC (.int 0))) (dC (.str "name")))) (sSeq (sExpr (dMeth mAppend (dV 1) (dOp oMul (dOp oIx (dC (.str "abcdefghijklmnopqrstuvwxyz")) (dOp oMod (dOp oMul (dUn oLen (dV 1)) (dC (.int 7))) (dC (.int 26)))) (dOp oAdd (dC (.int 1)) (dOp oFdiv (dUn oLen (dV 1)) (dC (.int 26)))))))
  (sRet (dTup (dA (dC (.str "name")) (dA (dOp oIx (dV 1) (dUn oNeg (dC (.int 1)))) dA0))))) sNext)
  (sRet (dTup (dA (dC (.str "made")) (dA (dOp oIx (dV 0) (dC (.int 1))) (dA (dUn oTuple (dComp (iSeq (dOp oIx (dV 0) (dC (.int 2)))) (gName 2) dYes (dCall sp__law_unlike (dA (dV 2) (dA (dV 1) dA0))) [2])) dA0))))))
def t__law_parted (sp_nodes_of : Spec) : DS :=
  (sSeq (sAsg (dUn oDictP (dCall sp_nodes_of (dA (dV 1) dA0))) (gName 2))
  (sSeq (sFor (iSeqP (dCall sp_nodes_of (dA (dV 0) dA0))) (gTup (gCons (gName 3) (gCons (gName 4) gNil))) (sIf (dTest (dOp oEq (dOp oIx (dV 4) (dC (.int 0))) (dC (.str "made")))) (sSeq (sAsg (dGetT (dV 2) (dV 3) (dTup (dA (dC (.str "none")) dA0))) (gName 5))
  (sIf (dOr (dTest (dOp oNe (dOp oIx (dV 5) (dC (.int 0))) (dC (.str "made")))) (dOr (dTest (dOp oNe (dOp oIx (dV 5) (dC (.int 1))) (dOp oIx (dV 4) (dC (.int 1))))) (dTest (dOp oNe (dUn oLen (dOp oIx (dV 5) (dC (.int 2)))) (dUn oLen (dOp oIx (dV 4) (dC (.int 2)))))))) (sRet (dC (.bl true))) sNext)) sNext))
  (sRet (dC (.bl false)))))
def t__law_right (sp__law_parted : Spec) (sp__law_same : Spec) (sp_filled : Spec) (sp_names_of : Spec) (sp_fitted : Spec) : DS :=
  (sSeq (sAsg (dCall sp_fitted (dA (dV 0) (dA (dV 1) dA0))) (gName 2))
  (sSeq (sIf (dTest (dUn oIsN (dV 2))) (sRet (dCall sp__law_parted (dA (dV 0) (dA (dV 1) dA0)))) sNext)
  (sSeq (sIf (dNot (dTest (dUn (oIsi "tuple") (dV 2)))) (sRet (dC (.bl false))) sNext)
  (sSeq (sIf (dNot (dTest (dCall sp__law_same (dA (dUn oTuple (dComp (iSeq (dV 2)) (gTup (gCons (gName 3) (gCons (gName 4) gNil))) dYes (dV 3) [3, 4])) (dA (dCall sp_names_of (dA (dV 0) dA0)) dA0))))) (sRet (dC (.bl false))) sNext)
  (sRet (dAndV (dNotV (dCall sp__law_parted (dA (dV 0) (dA (dV 1) dA0)))) (dCall sp__law_same (dA (dCall sp_filled (dA (dV 0) (dA (dV 2) dA0))) (dA (dV 1) dA0)))))))))
def t_law (sp__law_right : Spec) (sp__law_unlike : Spec) (sp__law_any : Spec) (sp__law_same : Spec) (sp_fitted : Spec) (sp_filled : Spec) (sp_names_of : Spec) (sp__law_next : Spec) (sp__law_deck : Spec) : DS :=
  (sSeq (sAsg (dCall sp__law_deck (dA (dV 0) dA0)) (gName 1))
  (sSeq (sFor (iRange (dC (.int 10))) (gName 2) (sSeq (sAsg (dCall sp__law_next (dA (dV 1) dA0)) (gName 3))
  (sSeq (sAsg (dCall sp__law_unlike (dA (dCall sp__law_any (dA (dV 1) (dA (dLst (dA (dC (.str "made")) (dA (dC (.str "name")) (dA (dC (.str "made")) dA0)))) (dA (dOp oAdd (dC (.int 1)) (dOp oMod (dV 3) (dC (.int 4)))) dA0)))) (dA (dNew dA0) dA0))) (gName 4))
  (sSeq (sAsg (dNew dA0) (gName 5))
  (sSeq (sFor (iSeq (dCall sp_names_of (dA (dV 4) dA0))) (gName 6) (sExpr (dMeth mAppend (dV 5) (dTup (dA (dV 6) (dA (dCall sp__law_any (dA (dV 1) (dA (dLst (dA (dC (.str "name")) (dA (dC (.str "made")) (dA (dC (.str "skip")) dA0)))) (dA (dOp oAdd (dC (.int 1)) (dOp oMod (dCall sp__law_next (dA (dV 1) dA0)) (dC (.int 3)))) dA0)))) dA0))))))
  (sSeq (sAsg (dCall sp_filled (dA (dV 4) (dA (dUn oTuple (dV 5)) dA0))) (gName 7))
  (sSeq (sIf (dNot (dTest (dCall sp__law_same (dA (dCall sp_fitted (dA (dV 4) (dA (dV 7) dA0))) (dA (dUn oTuple (dV 5)) dA0))))) (sRet (dC (.bl false))) sNext)
  (sSeq (sAsg (dCall sp__law_any (dA (dV 1) (dA (dLst (dA (dC (.str "name")) (dA (dC (.str "made")) (dA (dC (.str "skip")) dA0)))) (dA (dOp oAdd (dC (.int 1)) (dOp oMod (dOp oFdiv (dV 3) (dC (.int 4))) (dC (.int 4)))) dA0)))) (gName 8))
  (sSeq (sIf (dOr (dNot (dTest (dCall sp__law_right (dA (dV 4) (dA (dV 7) dA0))))) (dNot (dTest (dCall sp__law_right (dA (dV 4) (dA (dV 8) dA0)))))) (sRet (dC (.bl false))) sNext)
  (sSeq (sAsg (dCall sp__law_unlike (dA (dCall sp__law_any (dA (dV 1) (dA (dLst (dA (dC (.str "made")) (dA (dC (.str "name")) dA0))) (dA (dOp oAdd (dC (.int 1)) (dOp oMod (dOp oFdiv (dV 3) (dC (.int 16))) (dC (.int 3)))) dA0)))) (dA (dNew dA0) dA0))) (gName 9))
  (sIf (dOr (dNot (dTest (dCall sp__law_right (dA (dV 9) (dA (dV 7) dA0))))) (dNot (dTest (dCall sp__law_right (dA (dV 4) (dA (dV 4) dA0)))))) (sRet (dC (.bl false))) sNext)))))))))))
  (sRet (dC (.bl true)))))
/-! ### draws -/
/-- the deck at dk has room for at least b - B draws more, all else is as it was -/
def Drew (kind : Nat) (M : Mem) (dk : Addr) (b B : Nat) (M' : Mem) : Prop := ∃ b', M' = mset M dk (.deck kind b') ∧ b ≤ b' + B
theorem Drew.refl {kind : Nat} {M : Mem} {dk : Addr} {b : Nat} (h : M dk = some (.deck kind b)) : Drew kind M dk b 0 M := ⟨b, (mset_self h).symm, Nat.le_refl _⟩
def sp_next (kind : Nat) (top : Int) : Spec := ⟨fun ds M => ∃ dk b, ds = [.ref dk] ∧ M dk = some (.deck kind b) ∧ 1 ≤ b,
  fun ds M d M' => ∀ dk b, ds = [.ref dk] → M dk = some (.deck kind b) → ∃ n : Int, d = .int n ∧ 0 ≤ n ∧ n < top ∧ Drew kind M dk b 1 M'⟩
/-- one draw, wherever it is asked -/
theorem draw {kind : Nat} {top : Int} {M : Mem} {dk : Addr} {b : Nat} {Q : DK} (h : M dk = some (.deck kind b)) (hb : 1 ≤ b) (q : ∀ (n : Int) (b' : Nat), 0 ≤ n → n < top → b ≤ b' + 1 → Q (.int n) (mset M dk (.deck kind b'))) :
    (sp_next kind top).pre [.ref dk] M ∧ ∀ d M', (sp_next kind top).post [.ref dk] M d M' → Q d M' := by
  refine ⟨⟨dk, b, rfl, h, hb⟩, fun d M' p => ?_⟩
  obtain ⟨n, rfl, h0, h1, b', rfl, hb'⟩ := p dk b rfl h
  exact q n b' h0 h1 hb'
def sp_deck (kind room : Nat) : Spec := ⟨fun ds M => ∃ ns : List Int, ds = [.rol (ns.map D.int)] ∧ ns.length ≤ 63 ∧ M = fun _ => none, fun _ _ d M' => ∃ dk, d = .ref dk ∧ M' dk = some (.deck kind room)⟩
def intsD (ns : List Int) : List D := ns.map D.int
/-! ### picking -/
theorem atI_mem {α : Type} {xs : List α} {i : Int} (h0 : 0 ≤ i) (h1 : i < xs.length) : ∃ v, atI xs i = some v ∧ v ∈ xs := by
  have h : i.toNat < xs.length := by omega
  refine ⟨xs[i.toNat], ?_, List.getElem_mem h⟩
  unfold atI ixN
  rw [if_pos h0, if_pos h1]
  simp [h]
theorem atI_nat' {α : Type} {xs : List α} {i : Nat} (h : i < xs.length) : atI xs (i : Int) = some xs[i] := by
  unfold atI ixN
  rw [if_pos (by omega), if_pos (by omega)]
  simp [h]
@[simp] theorem atI_ite {α : Type} (c : Prop) [Decidable c] (a b : α) : atI [a, b] (if c then (1 : Int) else 0) = some (if c then b else a) := by
  by_cases h : c
  · simp [h, atI, ixN]
  · simp [h, atI, ixN]
def upFrom : Nat → Nat → List D
  | _, 0 => []
  | k, n + 1 => .int (k : Int) :: upFrom (k + 1) n
theorem upFrom_eq (k n : Nat) : upFrom k n = (List.range' k n).map fun (i : Nat) => D.int (i : Int) := by
  induction n generalizing k with
  | zero => rfl
  | succ n ih => simp [upFrom, List.range'_succ, ih]
theorem upTo_eq (n : Nat) : upTo n = upFrom 0 n := by
  rw [upFrom_eq]
  unfold upTo
  rw [List.range_eq_range']
@[simp] theorem upFrom_length (k n : Nat) : (upFrom k n).length = n := by
  rw [upFrom_eq]; simp
@[simp] theorem upTo_length (n : Nat) : (upTo n).length = n := by simp [upTo]
theorem mod_pos (a : Int) {m : Int} (h : 0 < m) : 0 ≤ a % m ∧ a % m < m := ⟨Int.emod_nonneg a (by omega), Int.emod_lt_of_pos a h⟩
theorem alpha_cps : (Str.ofString "abcdefghijklmnopqrstuvwxyz").cps.toList = [97, 98, 99, 100, 101, 102, 103, 104, 105, 106, 107, 108, 109, 110, 111, 112, 113, 114, 115, 116, 117, 118, 119, 120, 121, 122] := by decide +kernel
theorem alpha_len : (Str.ofString "abcdefghijklmnopqrstuvwxyz").length = 26 := by decide +kernel
theorem one_len (c : Nat) : (⟨#[c]⟩ : Str).length = 1 := rfl
theorem strOk_rep {x : Str} (h : strOk x = true) : ∀ n : Nat, strOk (repS n x) = true := by
  have f : ∀ (n : Nat) (a : Array Nat), a.all (· < 0x110000) = true → ((List.replicate n x.cps).foldl (· ++ ·) a).all (· < 0x110000) = true := by
    intro n
    induction n with
    | zero => intro a ha; simpa using ha
    | succ n ih =>
      intro a ha
      rw [List.replicate_succ, List.foldl_cons]
      refine ih _ ?_
      rw [Array.all_append, ha]
      exact h
  intro n
  exact f n #[] (by simp)
theorem repS_length (x : Str) : ∀ n : Nat, (repS n x).length = n * x.length := by
  have f : ∀ (n : Nat) (a : Array Nat), ((List.replicate n x.cps).foldl (· ++ ·) a).size = a.size + n * x.cps.size := by
    intro n
    induction n with
    | zero => intro a; simp
    | succ n ih =>
      intro a
      rw [List.replicate_succ, List.foldl_cons, ih, Array.size_append, Nat.succ_mul]
      omega
  intro n
  have := f n #[]
  simp only [Array.size_empty, Nat.zero_add] at this
  exact this
theorem mset4 {M : Mem} {a p : Addr} (h : p ≠ a) (o1 o2 o3 o4 : MO) : mset (mset (mset (mset M a o1) p o2) a o3) p o4 = mset (mset M a o3) p o4 := by
  rw [mset_comm (a := p) (b := a) h, mset_mset, mset_mset]
theorem Sub.upd {M M' : Mem} (s : Sub M M') {p : Addr} {o : MO} (h : M p = none) (so : soft (some o)) : Sub M (DL.mset M' p o) := fun b => by
  by_cases e : b = p
  · subst e; rw [mset_same]; exact .inr ⟨h, so⟩
  · rw [mset_ne e]; exact s b
/-! memory behind some draws: lists that are new may lie about -/
structure KS (kind : Nat) (M M1 : Mem) (dk : Addr) (b : Nat) : Prop where
  sub : Sub (mset M dk (.deck kind b)) M1
theorem KS.deck {kind : Nat} {M M1 : Mem} {dk : Addr} {b : Nat} (s : KS kind M M1 dk b) : M1 dk = some (.deck kind b) := by
  rcases s.sub dk with h | h
  · rw [← h, mset_same]
  · rw [mset_same] at h; cases h.1
theorem KS.start {kind : Nat} {M : Mem} {dk : Addr} {b : Nat} (h : M dk = some (.deck kind b)) : KS kind M M dk b := ⟨by rw [mset_self h]; exact Sub.refl _⟩
theorem KS.draw {kind : Nat} {M M1 : Mem} {dk : Addr} {b : Nat} (s : KS kind M M1 dk b) (b' : Nat) : KS kind M (mset M1 dk (.deck kind b')) dk b' := ⟨by
  have := s.sub.mset dk (.deck kind b')
  rw [mset_mset] at this
  exact this⟩
theorem KS.fresh {kind : Nat} {M M1 : Mem} {dk p : Addr} {b : Nat} (s : KS kind M M1 dk b) (h : M1 p = none) : p ≠ dk ∧ M p = none := by
  have h1 : p ≠ dk := fun e => by rw [e, s.deck] at h; cases h
  refine ⟨h1, ?_⟩
  rcases s.sub p with z | z
  · rw [mset_ne h1] at z; rw [z, h]
  · have := z.1; rw [mset_ne h1] at this; exact this
theorem KS.upd {kind : Nat} {M M1 : Mem} {dk p : Addr} {b : Nat} (s : KS kind M M1 dk b) (h : p ≠ dk ∧ M p = none) (xs : List D) : KS kind M (mset M1 p (.lst xs)) dk b := ⟨s.sub.upd (by rw [mset_ne h.1]; exact h.2) trivial⟩
theorem atI_zero {α : Type} (x : α) (r : List α) : atI (x :: r) 0 = some x := by
  have : (0 : Int) < ((x :: r).length : Int) := by simp
  simp only [atI, ixN, Int.le_refl, if_true, if_pos this]
  rfl
theorem atI3_0 (x y z : D) : atI [x, y, z] 0 = some x := rfl
theorem atI3_1 (x y z : D) : atI [x, y, z] 1 = some y := rfl
theorem atI3_2 (x y z : D) : atI [x, y, z] 2 = some z := rfl
theorem ixN3 : ixN 3 2 = some 2 := rfl
theorem atI2_0 (x y : D) : atI [x, y] 0 = some x := rfl
theorem atI2_1 (x y : D) : atI [x, y] 1 = some y := rfl
/-! ### letters, names -/
/-- so many small letters -/
def Lets (x : Str) (m : Nat) : Prop := x.length = m ∧ ∀ c ∈ x.cps.toList, 97 ≤ c ∧ c ≤ 122
theorem lets_ok {x : Str} {m : Nat} (h : Lets x m) : strOk x = true := by
  unfold strOk
  rw [← Array.all_toList, List.all_eq_true]
  intro c hc
  have := h.2 c hc
  rw [decide_eq_true_eq]
  omega
theorem lets_nm {x : Str} {m : Nat} (h : Lets x m) (hm : m ≤ 100) : nmOk x = true := by
  simp only [nmOk, Bool.and_eq_true, decide_eq_true_eq]
  exact ⟨lets_ok h, by rw [h.1]; exact hm⟩
theorem figs_len : ∀ i : Fin 1000, (Str.ofString (toString (i.val : Int))).length ≤ 4 := by decide +kernel
theorem nm_figs {i : Int} (h0 : 0 ≤ i) (h1 : i < 1000) : nmOk (Str.ofString (toString i)) = true := by
  obtain ⟨j, rfl⟩ := Int.eq_ofNat_of_zero_le h0
  have := figs_len ⟨j, by omega⟩
  exact nm_of _ (Nat.le_trans this (by decide))
theorem lets_add {x : Str} {m c : Nat} (h : Lets x m) (hc : 97 ≤ c ∧ c ≤ 122) : Lets (x ++ ⟨#[c]⟩) (m + 1) := by
  obtain ⟨h1, h2⟩ := h
  have e : (x ++ ⟨#[c]⟩ : Str).cps.toList = x.cps.toList ++ [c] := by
    show (x.cps ++ #[c]).toList = _
    simp
  refine ⟨?_, ?_⟩
  · show (x.cps ++ #[c]).size = m + 1
    have : x.cps.size = m := h1
    simp; omega
  · intro d hd
    rw [e, List.mem_append] at hd
    rcases hd with hd | hd
    · exact h2 d hd
    · rw [List.mem_singleton.mp hd]; exact hc
def sp_letters (kind : Nat) : Spec := ⟨fun ds M => ∃ dk b m, ds = [.ref dk, .int (m : Nat)] ∧ M dk = some (.deck kind b) ∧ 1 ≤ m ∧ m ≤ 100 ∧ m + 1 ≤ b,
  fun ds M d M' => ∀ dk b m, ds = [.ref dk, .int ((m : Nat) : Int)] → M dk = some (.deck kind b) → ∃ x j, d = .str x ∧ Lets x j ∧ 1 ≤ j ∧ j ≤ m ∧ Drew kind M dk b (m + 1) M'⟩
theorem call_letters {kind : Nat} {M : Mem} {dk : Addr} {b m : Nat} {Q : DK} (h : M dk = some (.deck kind b)) (h1 : 1 ≤ m) (h2 : m ≤ 100) (hb : m + 1 ≤ b)
    (q : ∀ x j b', Lets x j → 1 ≤ j → j ≤ m → b ≤ b' + (m + 1) → Q (.str x) (mset M dk (.deck kind b'))) :
    (sp_letters kind).pre [.ref dk, .int (m : Int)] M ∧ ∀ d M', (sp_letters kind).post [.ref dk, .int (m : Int)] M d M' → Q d M' := by
  refine ⟨⟨dk, b, m, rfl, h, h1, h2, hb⟩, fun d M' p => ?_⟩
  obtain ⟨x, j, rfl, hx, hl, hj, b', rfl, hb'⟩ := p dk b m rfl h
  exact q x j b' hx hl hj hb'
theorem lets_loop (kind : Nat) (top : Int) (E : DEnds) (dk : Addr) (o1 o2 : Option D) : ∀ (n k : Nat) (M : Mem) (x : Str) (m b : Nat) (o4 : Option D), Lets x m → m + n ≤ 100 → n ≤ b → M dk = some (.deck kind b) →
    (∀ x b' o4, Lets x (m + n) → b ≤ b' + n → E.nx [some (.ref dk), o1, o2, some (.str x), o4] (mset M dk (.deck kind b'))) →
    sLoop (gName 4) (sAsg (dOp oAdd (dV 3) (dOp oIx (dC (.str "abcdefghijklmnopqrstuvwxyz")) (dOp oMod (dCall (sp_next kind top) (dA (dV 0) dA0)) (dC (.int 26))))) (gName 3)) (upFrom k n) E [some (.ref dk), o1, o2, some (.str x), o4] M
  | 0, k, M, x, m, b, o4, hx, _, _, hM, q => by
    have := q x b o4 hx (by omega)
    rw [mset_self hM] at this
    simpa [upFrom] using this
  | n + 1, k, M, x, m, b, o4, hx, h1, h2, hM, q => by
    simp only [upFrom]
    simp
    refine draw hM (by omega) fun r b' h0 hr hb' => ?_
    have hm := mod_pos r (show (0 : Int) < 26 by decide)
    obtain ⟨c, e, hc⟩ := atI_mem (xs := (Str.ofString "abcdefghijklmnopqrstuvwxyz").cps.toList) hm.1 (by rw [alpha_cps]; exact hm.2)
    have hc' : 97 ≤ c ∧ c ≤ 122 := by
      rw [alpha_cps] at hc
      simp at hc
      omega
    simp [e, alpha_len, one_len]
    refine ⟨by have := hx.1; omega, ?_⟩
    have hx' := lets_add hx hc'
    refine lets_loop kind top E dk o1 o2 n (k + 1) _ _ (m + 1) b' _ hx' (by omega) (by omega) (by simp) ?_
    intro y b'' o4 hy hb''
    rw [mset_mset]
    exact q y b'' o4 (by rw [show m + (n + 1) = m + 1 + n by omega]; exact hy) (by omega)
theorem lets_nil : Lets (Str.ofString "") 0 := by
  refine ⟨by decide +kernel, ?_⟩
  intro c hc
  have : (Str.ofString "").cps.toList = [] := by decide +kernel
  rw [this] at hc
  cases hc
theorem does_letters (kind : Nat) (top : Int) : Does 5 (t__law_letters (sp_next kind top)) 2 (sp_letters kind) := by
  rintro ds M hl ⟨dk, b, m, rfl, hM, h1, h2, hb⟩
  simp [t__law_letters]
  refine draw hM (by omega) fun r b' h0 hr hb' => ?_
  have hm := mod_pos r (show (0 : Int) < m by omega)
  simp
  refine ⟨by omega, by omega, ?_⟩
  rw [upTo_eq]
  refine lets_loop kind top _ dk _ _ _ 0 _ _ 0 b' none lets_nil (by omega) (by omega) (by simp) ?_
  intro x b'' o4 hx hb''
  rw [mset_mset]
  refine Ret.now ?_
  intro dk' b0 m' e1 e2
  simp only [List.cons.injEq, D.ref.injEq, D.int.injEq, and_true] at e1
  obtain ⟨rfl, e1⟩ := e1
  rw [hM] at e2
  cases e2
  have : m' = m := by omega
  subst this
  exact ⟨x, _, rfl, hx, by omega, by omega, b'', rfl, by omega⟩
/-- what names may be -/
def sp_name (kind : Nat) : Spec := ⟨fun ds M => ∃ dk b, ds = [.ref dk] ∧ M dk = some (.deck kind b) ∧ 10 ≤ b,
  fun ds M d M' => ∀ dk b, ds = [.ref dk] → M dk = some (.deck kind b) → ∃ x, d = .str x ∧ nmOk x = true ∧ Drew kind M dk b 10 M'⟩
theorem call_name {kind : Nat} {M : Mem} {dk : Addr} {b : Nat} {Q : DK} (h : M dk = some (.deck kind b)) (hb : 10 ≤ b)
    (q : ∀ x b', nmOk x = true → b ≤ b' + 10 → Q (.str x) (mset M dk (.deck kind b'))) :
    (sp_name kind).pre [.ref dk] M ∧ ∀ d M', (sp_name kind).post [.ref dk] M d M' → Q d M' := by
  refine ⟨⟨dk, b, rfl, h, hb⟩, fun d M' p => ?_⟩
  obtain ⟨x, rfl, hx, b', rfl, hb'⟩ := p dk b rfl h
  exact q x b' hx hb'
theorem does_name (kind : Nat) (top : Int) : Does 4 (t__law_name (sp_letters kind) (sp_next kind top)) 1 (sp_name kind) := by
  rintro ds M hl ⟨dk, b, rfl, hM, hb⟩
  have fin : ∀ x b', nmOk x = true → b ≤ b' + 10 → Ret (sp_name kind) [.ref dk] M (.str x) (mset M dk (.deck kind b')) := by
    intro x b' h1 h3
    refine Ret.now ?_
    intro dk' b0 e1 e2
    simp only [List.cons.injEq, D.ref.injEq, and_true] at e1
    subst e1
    rw [hM] at e2
    cases e2
    exact ⟨x, rfl, h1, b', rfl, h3⟩
  simp [t__law_name]
  refine draw hM (by omega) fun r b' h0 hr hb' => ?_
  simp
  by_cases c1 : r % 8 < 4
  · simp [c1]
    have hm := mod_pos (r / 8) (show (0 : Int) < 8 by decide)
    obtain ⟨v, e, hv⟩ := atI_mem (xs := [D.str (Str.ofString "a"), D.str (Str.ofString "b"), D.str (Str.ofString "ab"), D.str (Str.ofString "ba"), D.str (Str.ofString "kin"), D.str (Str.ofString "sam"), D.str (Str.ofString "eithers"), D.str (Str.ofString "yes")]) hm.1 hm.2
    simp only [e]
    simp only [List.mem_cons, List.not_mem_nil, or_false] at hv
    rcases hv with rfl | rfl | rfl | rfl | rfl | rfl | rfl | rfl <;> exact fin _ b' (nm_of _) (by omega)
  · simp [c1]
    by_cases c2 : r % 8 = 4
    · simp [c2]
      have hm := mod_pos (r / 8) (show (0 : Int) < 999 by decide)
      refine ⟨?_, fin _ b' (nm_figs (by omega) (by omega)) (by omega)⟩
      have : (1 + r / 8 % 999).natAbs ≤ 1000 := by omega
      exact Nat.lt_of_le_of_lt this (by decide)
    · simp [c2]
      refine call_letters (b := b') (m := 8) (by simp) (by decide) (by decide) (by omega) fun x j b'' hx h1 h2 h3 => ?_
      simp
      split
      · exact fin _ b'' (nm_of _) (by omega)
      · exact fin _ b'' (lets_nm hx (by omega)) (by omega)
/-! ### sayings by draws -/
def B : Nat → Nat
  | 0 => 11
  | n + 1 => 3 * B n + 11
theorem B_pos (n : Nat) : 11 ≤ B n := by cases n <;> simp [B] <;> omega
mutual
/-- all its heads are some -/
def Say.by (f : Str → Bool) : Say → Bool
  | .name _ => f "name"
  | .skip => f "skip"
  | .made _ ps => f "made" && bys f ps
  | .call _ ps => f "call" && bys f ps
  | .either a b => f "either" && a.by f && b.by f
  | .same a b => f "same" && a.by f && b.by f
def bys (f : Str → Bool) : List Say → Bool
  | [] => true
  | s :: r => s.by f && bys f r
end
def six : List Str := ["name", "made", "call", "either", "same", "skip"]
def sp_any (kind n : Nat) : Spec := ⟨fun ds M => ∃ (dk : Addr) (b : Nat) (hs : List Str) (left : Int), ds = [.ref dk, .lst (hs.map D.str), .int left] ∧ M dk = some (.deck kind b) ∧ hs ≠ [] ∧ hs.length ≤ 1000 ∧ (∀ h ∈ hs, h ∈ six) ∧ 1 ≤ left ∧ left ≤ (n : Int) ∧ B n ≤ b,
  fun ds M d M' => ∀ (dk : Addr) (b : Nat) (hs : List Str) (left : Int), ds = [.ref dk, .lst (hs.map D.str), .int left] → M dk = some (.deck kind b) → ∃ s : Say, d = s.d ∧ s.ok = true ∧ (s.deep : Int) ≤ left ∧ s.by (fun h => decide (h ∈ hs) || decide (h = "made")) = true ∧ Drew kind M dk b (B n) M'⟩
theorem call_any {kind n : Nat} {M : Mem} {dk : Addr} {b : Nat} {hs : List Str} {left : Int} {Q : DK} (h : M dk = some (.deck kind b)) (h1 : hs ≠ []) (h2 : hs.length ≤ 1000) (h3 : ∀ h ∈ hs, h ∈ six) (h4 : 1 ≤ left) (h5 : left ≤ (n : Int)) (hb : B n ≤ b)
    (q : ∀ (s : Say) b', s.ok = true → (s.deep : Int) ≤ left → s.by (fun h => decide (h ∈ hs) || decide (h = "made")) = true → b ≤ b' + B n → Q s.d (mset M dk (.deck kind b'))) :
    (sp_any kind n).pre [.ref dk, .lst (hs.map D.str), .int left] M ∧ ∀ d M', (sp_any kind n).post [.ref dk, .lst (hs.map D.str), .int left] M d M' → Q d M' := by
  refine ⟨⟨dk, b, hs, left, rfl, h, h1, h2, h3, h4, h5, hb⟩, fun d M' p => ?_⟩
  obtain ⟨s, rfl, hs, hd, hy, b', rfl, hb'⟩ := p dk b hs left rfl h
  exact q s b' hs hd hy hb'
theorem any_none (kind : Nat) (ds : List D) (M : Mem) : ¬ (sp_any kind 0).pre ds M := by
  rintro ⟨dk, b, hs, left, _, _, _, _, _, h1, h2, _⟩
  omega
theorem does_any (kind : Nat) (top : Int) (n : Nat) : Does 9 (t__law_any (sp_any kind n) (sp_name kind) (sp_next kind top)) 3 (sp_any kind (n + 1)) := by
  rintro ds M hl ⟨dk, b, hs, left, rfl, hM, hne, hlen, hsix, hl1, hl2, hb⟩
  have hB := B_pos n
  have hB1 : B (n + 1) = 3 * B n + 11 := rfl
  have fin : ∀ (s : Say) b', s.ok = true → (s.deep : Int) ≤ left → s.by (fun h => decide (h ∈ hs) || decide (h = "made")) = true → b ≤ b' + B (n + 1) → Ret (sp_any kind (n + 1)) [.ref dk, .lst (hs.map D.str), .int left] M s.d (mset M dk (.deck kind b')) := by
    intro s b' z1 z2 z3 z4
    refine Ret.now ?_
    intro dk' b0 hs' left' e1 e2
    simp only [List.cons.injEq, D.ref.injEq, D.lst.injEq, D.int.injEq, and_true] at e1
    obtain ⟨rfl, e3, rfl⟩ := e1
    have e3 : hs = hs' := by
      have inj : ∀ (a b : List Str), a.map D.str = b.map D.str → a = b := by
        intro a
        induction a with
        | nil => intro b h; cases b with
          | nil => rfl
          | cons _ _ => simp at h
        | cons x r ih => intro b h; cases b with
          | nil => simp at h
          | cons y t =>
            simp only [List.map_cons, List.cons.injEq, D.str.injEq] at h
            rw [h.1, ih t h.2]
      exact inj _ _ e3
    subst e3
    rw [hM] at e2
    cases e2
    exact ⟨s, rfl, z1, z2, z3, b', rfl, z4⟩
  have hu : ∀ h : Str, h ∈ hs → (decide (h ∈ hs) || decide (h = "made")) = true := fun h hh => by simp [hh]
  -- the parts of a made, a call
  have comp : ∀ (ρ : Env) (Q : DK) (k i : Nat) (ss : List Say) (b1 : Nat), ρ[0]? = some (some (.ref dk)) → ρ[1]? = some (some (.lst (hs.map D.str))) → ρ[2]? = some (some (.int left)) → 8 < ρ.length → 2 ≤ left → k * B n ≤ b1 →
      oks ss = true → (deeps ss : Int) ≤ left - 1 → bys (fun h => decide (h ∈ hs) || decide (h = "made")) ss = true →
      (∀ ts b', oks ts = true → (deeps ts : Int) ≤ left - 1 → bys (fun h => decide (h ∈ hs) || decide (h = "made")) ts = true → ts.length = ss.length + k → b1 ≤ b' + k * B n → Q (.lst (says ts)) (mset M dk (.deck kind b'))) →
      dCompL (gName 8) dYes (dCall (sp_any kind n) (dA (dV 0) (dA (dV 1) (dA (dOp oSub (dV 2) (dC (.int 1))) dA0)))) ρ (upFrom i k) (says ss) (mset M dk (.deck kind b1)) Q := by
    intro ρ Q k
    induction k with
    | zero =>
      intro i ss b1 _ _ _ _ _ _ o1 o2 o3 q
      simpa [upFrom] using q ss b1 o1 o2 o3 rfl (by omega)
    | succ k ih =>
      intro i ss b1 r0 r1 r2 r8 h2 hk o1 o2 o3 q
      rw [Nat.succ_mul] at hk q
      have g : ∀ (j : Nat) (x : D), j ≠ 8 → (ρ.set 8 (some x))[j]? = ρ[j]? := fun j x hj => List.getElem?_set_ne (Ne.symm hj)
      simp [upFrom, g, r0, r1, r2]
      refine call_any (b := b1) (by simp) hne hlen hsix (by omega) (by omega) (by omega) fun s b' z1 z2 z3 z4 => ?_
      rw [mset_mset]
      have sn : ∀ l : List Say, says (l ++ [s]) = says l ++ [s.d] := fun l => by
        induction l with
        | nil => simp [says]
        | cons a r ih => simp [says, ih]
      rw [← sn]
      have ob : ∀ l : List Say, oks l = true → oks (l ++ [s]) = true := fun l => by
        induction l with
        | nil => simp [oks, z1]
        | cons a r ih => simp [oks]; intro h1 h2; exact ⟨h1, ih h2⟩
      have db : ∀ l : List Say, (deeps l : Int) ≤ left - 1 → (deeps (l ++ [s]) : Int) ≤ left - 1 := fun l => by
        induction l with
        | nil => simp [deeps]; omega
        | cons a r ih => simp only [List.cons_append, deeps]; intro h; have := ih (by omega); omega
      have bb : ∀ l : List Say, bys (fun h => decide (h ∈ hs) || decide (h = "made")) l = true → bys (fun h => decide (h ∈ hs) || decide (h = "made")) (l ++ [s]) = true := fun l => by
        induction l with
        | nil => intro _; simp only [List.nil_append, bys, z3, Bool.and_self]
        | cons a r ih => simp only [List.cons_append, bys, Bool.and_eq_true]; intro h; exact ⟨h.1, ih h.2⟩
      refine ih (i + 1) (ss ++ [s]) b' r0 r1 r2 r8 h2 (by omega) (ob _ o1) (db _ o2) (bb _ o3) ?_
      intro ts b'' y1 y2 y3 y4 y5
      exact q ts b'' y1 y2 y3 (by rw [y4]; simp; omega) (by omega)
  have rest : ∀ (w : Str) (r : Int) (b1 : Nat), b ≤ b1 + 1 → 0 ≤ r → ((w ∈ hs ∧ (2 ≤ left ∨ w = "name" ∨ w = "skip")) ∨ w = "made") →
      t__law_any_3 (sp_any kind n) (sp_name kind) (sp_next kind top) { nx := fun _ M' => Ret (sp_any kind (n + 1)) [.ref dk, .lst (hs.map D.str), .int left] M .non M', rt := Ret (sp_any kind (n + 1)) [.ref dk, .lst (hs.map D.str), .int left] M }
        [some (.ref dk), some (.lst (hs.map D.str)), some (.int left), some (.int r), some (.str w), none, none, none, none] (mset M dk (.deck kind b1)) := by
    intro w r b1 hb1 h0 hw
    have tail : ∀ (mk : Str → List Say → Say), (w = "made" ∧ mk = Say.made ∨ w = "call" ∧ w ∈ hs ∧ 2 ≤ left ∧ mk = Say.call) →
        t__law_any_3 (sp_any kind n) (sp_name kind) (sp_next kind top) { nx := fun _ M' => Ret (sp_any kind (n + 1)) [.ref dk, .lst (hs.map D.str), .int left] M .non M', rt := Ret (sp_any kind (n + 1)) [.ref dk, .lst (hs.map D.str), .int left] M }
        [some (.ref dk), some (.lst (hs.map D.str)), some (.int left), some (.int r), some (.str w), none, none, none, none] (mset M dk (.deck kind b1)) := by
      intro mk hmk
      have hm := mod_pos (r / 16) (show (0 : Int) < 6 by decide)
      have hm2 := mod_pos (r / 96) (show (0 : Int) < 7 by decide)
      obtain ⟨v, e, hv⟩ := atI_mem (xs := [D.int 0, D.int 1, D.int 1, D.int 2, D.int 2, D.int 3]) hm.1 hm.2
      obtain ⟨u, e2, hu2⟩ := atI_mem (xs := [D.str (Str.ofString "yes"), D.str (Str.ofString "no"), D.str (Str.ofString "nought"), D.str (Str.ofString "next"), D.str (Str.ofString "pair"), D.str (Str.ofString "leaf"), D.str (Str.ofString "plus")]) hm2.1 hm2.2
      obtain ⟨y, rfl⟩ : ∃ y : Int, v = .int y := by
        simp at hv
        rcases hv with h | h | h | h <;> exact ⟨_, h⟩
      have hy : 0 ≤ y ∧ y ≤ 3 := by simp at hv; omega
      obtain ⟨x, rfl, hx⟩ : ∃ x : Str, u = .str x ∧ nmOk x = true := by
        simp only [List.mem_cons, List.not_mem_nil, or_false] at hu2
        rcases hu2 with h | h | h | h | h | h | h <;> exact ⟨_, h, nm_of _⟩
      have wn : w ≠ "skip" ∧ w ≠ "name" ∧ w ≠ "either" ∧ w ≠ "same" := by
        rcases hmk with ⟨rfl, _⟩ | ⟨rfl, _⟩ <;> simp [ofString_inj]
      have wn' : Str.ofString "either" ≠ w ∧ Str.ofString "same" ≠ w := ⟨fun z => wn.2.2.1 z.symm, fun z => wn.2.2.2 z.symm⟩
      simp [t__law_any_3, wn.1, wn.2.1, wn'.1, wn'.2, e, e2]
      have zero : (mk x []).ok = true ∧ ((mk x []).deep : Int) ≤ left ∧ (mk x []).by (fun h => decide (h ∈ hs) || decide (h = "made")) = true ∧ (mk x []).d = .tup [.str w, .str x, .tup []] := by
        rcases hmk with ⟨rfl, rfl⟩ | ⟨rfl, hw1, _, rfl⟩
        · simp [Say.ok, oks, hx, Say.deep, deeps, Say.by, bys, Say.d, says]; omega
        · simp [Say.ok, oks, hx, Say.deep, deeps, Say.by, bys, Say.d, says, hw1]; omega
      have more : ∀ ts : List Say, ts.length ≤ 3 → oks ts = true → (deeps ts : Int) ≤ left - 1 → bys (fun h => decide (h ∈ hs) || decide (h = "made")) ts = true →
          (mk x ts).ok = true ∧ ((mk x ts).deep : Int) ≤ left ∧ (mk x ts).by (fun h => decide (h ∈ hs) || decide (h = "made")) = true ∧ (mk x ts).d = .tup [.str w, .str x, .tup (says ts)] := by
        intro ts t1 t2 t3 t4
        rcases hmk with ⟨rfl, rfl⟩ | ⟨rfl, hw1, _, rfl⟩
        · refine ⟨by simp [Say.ok, hx, t1, t2], by simp only [Say.deep]; omega, by simp only [Say.by, t4]; simp, by simp [Say.d]⟩
        · refine ⟨by simp [Say.ok, hx, t1, t2], by simp only [Say.deep]; omega, by simp only [Say.by, t4]; simp [hw1], by simp [Say.d]⟩
      by_cases hleft : 1 < left
      · simp only [hleft, if_true, Int.mul_one]
        refine ⟨.inl ⟨by omega, by omega⟩, ⟨by omega, by omega⟩, by omega, ?_⟩
        rw [upTo_eq]
        have hz : y.toNat ≤ 3 := by omega
        have hk : y.toNat * B n ≤ 3 * B n := Nat.mul_le_mul_right _ hz
        refine comp _ _ y.toNat 0 [] b1 rfl rfl rfl (by simp) (by omega) (by omega) rfl (by simp [deeps]; omega) rfl ?_
        intro ts b' t1 t2 t3 t4 t5
        obtain ⟨m1, m2, m3, m4⟩ := more ts (by rw [t4]; simp; omega) t1 t2 t3
        simp only [oTuple_lst]
        rw [← m4]
        exact fin _ b' m1 m2 m3 (by omega)
      · simp only [hleft, if_false, Int.mul_zero]
        refine ⟨.inl ⟨by omega, by omega⟩, ⟨by omega, by omega⟩, by omega, ?_⟩
        simp [upTo]
        rw [← zero.2.2.2]
        exact fin _ b1 zero.1 zero.2.1 zero.2.2.1 (by omega)
    have hw6 : w ∈ six := by
      rcases hw with ⟨h, _⟩ | h
      · exact hsix w h
      · rw [h]; simp [six]
    simp only [six, List.mem_cons, List.not_mem_nil, or_false] at hw6
    rcases hw6 with rfl | rfl | rfl | rfl | rfl | rfl
    · have hn : Str.ofString "name" ∈ hs := by
        rcases hw with ⟨h, _⟩ | h
        · exact h
        · simp [ofString_inj] at h
      simp [t__law_any_3, ofString_inj]
      refine call_name (b := b1) (by simp) (by omega) fun x b' hx hb' => ?_
      rw [mset_mset]
      exact fin (.name x) b' (by simpa [Say.ok] using hx) (by simp [Say.deep]; omega) (by simp [Say.by, hn]) (by omega)
    · exact tail Say.made (.inl ⟨rfl, rfl⟩)
    · have hn : Str.ofString "call" ∈ hs ∧ 2 ≤ left := by
        rcases hw with ⟨h, h2⟩ | h
        · simp [ofString_inj] at h2; exact ⟨h, h2⟩
        · simp [ofString_inj] at h
      exact tail Say.call (.inr ⟨rfl, hn.1, hn.2, rfl⟩)
    · have hn : Str.ofString "either" ∈ hs ∧ 2 ≤ left := by
        rcases hw with ⟨h, h2⟩ | h
        · simp [ofString_inj] at h2; exact ⟨h, h2⟩
        · simp [ofString_inj] at h
      simp [t__law_any_3, ofString_inj]
      refine call_any (b := b1) (by simp) hne hlen hsix (by omega) (by omega) (by omega) fun s b2 z1 z2 z3 z4 => ?_
      rw [mset_mset]
      refine call_any (b := b2) (by simp) hne hlen hsix (by omega) (by omega) (by omega) fun s2 b3 y1 y2 y3 y4 => ?_
      rw [mset_mset]
      exact fin (.either s s2) b3 (by simp [Say.ok, z1, y1]) (by simp only [Say.deep]; omega) (by simp only [Say.by, z3, y3]; simp [hn.1]) (by omega)
    · have hn : Str.ofString "same" ∈ hs ∧ 2 ≤ left := by
        rcases hw with ⟨h, h2⟩ | h
        · simp [ofString_inj] at h2; exact ⟨h, h2⟩
        · simp [ofString_inj] at h
      simp [t__law_any_3, ofString_inj]
      refine call_any (b := b1) (by simp) hne hlen hsix (by omega) (by omega) (by omega) fun s b2 z1 z2 z3 z4 => ?_
      rw [mset_mset]
      refine call_any (b := b2) (by simp) hne hlen hsix (by omega) (by omega) (by omega) fun s2 b3 y1 y2 y3 y4 => ?_
      rw [mset_mset]
      exact fin (.same s s2) b3 (by simp [Say.ok, z1, y1]) (by simp only [Say.deep]; omega) (by simp only [Say.by, z3, y3]; simp [hn.1]) (by omega)
    · have hn : Str.ofString "skip" ∈ hs := by
        rcases hw with ⟨h, _⟩ | h
        · exact h
        · simp [ofString_inj] at h
      simp [t__law_any_3, ofString_inj]
      exact fin .skip b1 (by simp [Say.ok]) (by simp [Say.deep]; omega) (by simp [Say.by, hn]) (by omega)
  simp [t__law_any]
  refine draw hM (by omega) fun r b1 h0 hr hb1 => ?_
  have hpos : 0 < hs.length := List.length_pos_iff.mpr hne
  have hm := mod_pos r (show (0 : Int) < hs.length by omega)
  obtain ⟨v, e, hv⟩ := atI_mem (xs := hs.map D.str) hm.1 (by rw [List.length_map]; exact hm.2)
  obtain ⟨w, hw, rfl⟩ := List.mem_map.mp hv
  simp [e, ofString_inj]
  refine ⟨hpos, ?_⟩
  split
  · split
    · rename_i c1 c2
      refine rest w r b1 hb1 h0 (.inl ⟨hw, .inr ?_⟩)
      rcases c2 with c2 | c2
      · exact .inl c2.symm
      · exact .inr c2.symm
    · split
      · rename_i c1 c2 c3
        split
        · exact rest _ r b1 hb1 h0 (.inr rfl)
        · exact rest _ r b1 hb1 h0 (.inl ⟨c3, .inr (.inl rfl)⟩)
      · exact rest _ r b1 hb1 h0 (.inr rfl)
  · rename_i c1
    exact rest w r b1 hb1 h0 (.inl ⟨hw, .inl (by omega)⟩)
/-! ### the program: parts, nodes, names -/
theorem ev_parts_of (s : Say) (E : DEnds) (M : Mem) : t_parts_of E [some s.d] M = E.rt (.tup (says s.parts)) M := by
  cases s <;> simp [t_parts_of, Say.d, Say.parts, says, atI, ixN, ofString_inj, cut, sIx]
def sp_parts : Spec := ⟨fun ds _ => ∃ s : Say, ds = [s.d], fun ds M d M' => M' = M ∧ ∀ s : Say, ds = [s.d] → d = .tup (says s.parts)⟩
theorem does_parts_of : Does 1 t_parts_of 1 sp_parts := by
  rintro ds M hl ⟨s, rfl⟩
  show t_parts_of _ [some s.d] M
  rw [ev_parts_of]
  exact Ret.now ⟨rfl, fun t h => by rw [one_inj h]⟩
theorem call_parts {s : Say} {M : Mem} {Q : DK} (q : Q (.tup (says s.parts)) M) : sp_parts.pre [s.d] M ∧ ∀ d M', sp_parts.post [s.d] M d M' → Q d M' := by
  refine ⟨⟨s, rfl⟩, fun d M' p => ?_⟩
  obtain ⟨rfl, p⟩ := p
  rw [p s rfl]
  exact q
mutual
/-- the nodes, each behind its path -/
def Say.nds (p : List Nat) : Say → List (List Nat × Say)
  | .name x => [(p, .name x)]
  | .skip => [(p, .skip)]
  | .made h ps => (p, .made h ps) :: ndsL p 0 ps
  | .call h ps => (p, .call h ps) :: ndsL p 0 ps
  | .either a b => (p, .either a b) :: (a.nds (p ++ [0]) ++ b.nds (p ++ [1]))
  | .same a b => (p, .same a b) :: (a.nds (p ++ [0]) ++ b.nds (p ++ [1]))
def ndsL (p : List Nat) (i : Nat) : List Say → List (List Nat × Say)
  | [] => []
  | s :: r => s.nds (p ++ [i]) ++ ndsL p (i + 1) r
end
theorem nds_eq (p : List Nat) (s : Say) : s.nds p = (p, s) :: ndsL p 0 s.parts := by
  cases s <;> simp [Say.nds, ndsL, Say.parts]
mutual
theorem nds_length (p : List Nat) : ∀ s : Say, (s.nds p).length = s.size
  | .name x => by simp [Say.nds, Say.size]
  | .skip => by simp [Say.nds, Say.size]
  | .made h ps => by simp [Say.nds, Say.size, ndsL_length p 0 ps]
  | .call h ps => by simp [Say.nds, Say.size, ndsL_length p 0 ps]
  | .either a b => by simp [Say.nds, Say.size, nds_length _ a, nds_length _ b]
  | .same a b => by simp [Say.nds, Say.size, nds_length _ a, nds_length _ b]
theorem ndsL_length (p : List Nat) (i : Nat) : ∀ ps : List Say, (ndsL p i ps).length = sizes ps
  | [] => rfl
  | s :: r => by simp [ndsL, sizes, nds_length _ s, ndsL_length p (i + 1) r]
end
def pathD (p : List Nat) : List D := p.map fun (i : Nat) => .int (i : Int)
@[simp] theorem pathD_nil : pathD [] = [] := rfl
@[simp] theorem pathD_snoc (p : List Nat) (i : Nat) : pathD (p ++ [i]) = pathD p ++ [.int (i : Int)] := by simp [pathD]
@[simp] theorem pathD_length (p : List Nat) : (pathD p).length = p.length := by simp [pathD]
theorem pathD_inj : ∀ {p q : List Nat}, pathD p = pathD q → p = q
  | [], [], _ => rfl
  | [], _ :: _, h => by simp [pathD] at h
  | _ :: _, [], h => by simp [pathD] at h
  | a :: p, b :: q, h => by
    have h' : D.int (a : Int) :: pathD p = D.int (b : Int) :: pathD q := h
    simp only [List.cons.injEq, D.int.injEq] at h'
    rw [pathD_inj h'.2]
    have : a = b := by omega
    rw [this]
def pairD (q : List Nat × Say) : D := .tup [.tup (pathD q.1), q.2.d]
def sp_add (n : Nat) : Spec := ⟨fun ds M => ∃ l xs p s, ds = [.ref l, .tup (pathD p), Say.d s] ∧ M l = some (.lst xs) ∧ s.deep ≤ n ∧ xs.length + s.size ≤ 5000 ∧ p.length + n ≤ 1000,
  fun ds M d M' => ∀ l xs p s, ds = [.ref l, .tup (pathD p), Say.d s] → M l = some (.lst xs) → d = .non ∧ M' = mset M l (.lst (xs ++ (s.nds p).map pairD))⟩
theorem call_add {n : Nat} {l : Addr} {xs : List D} {p : List Nat} {s : Say} {M : Mem} {Q : DK} (h : M l = some (.lst xs)) (hd : s.deep ≤ n) (hz : xs.length + s.size ≤ 5000) (hp : p.length + n ≤ 1000) (q : Q .non (mset M l (.lst (xs ++ (s.nds p).map pairD)))) :
    (sp_add n).pre [.ref l, .tup (pathD p), s.d] M ∧ ∀ d M', (sp_add n).post [.ref l, .tup (pathD p), s.d] M d M' → Q d M' := by
  refine ⟨⟨l, xs, p, s, rfl, h, hd, hz, hp⟩, fun d M' z => ?_⟩
  obtain ⟨rfl, rfl⟩ := z l xs p s rfl h
  exact q
theorem does_add_nodes (n : Nat) : Does 5 (t_add_nodes sp_parts (sp_add n)) 3 (sp_add (n + 1)) := by
  rintro ds M hl ⟨l, xs, p, s, rfl, hM, hd, hz, hp⟩
  have hsz := size_parts s
  have hdp := deep_parts s
  have loop : ∀ (E : DEnds) (ps : List Say) (i : Nat) (xs : List D) (o3 o4 : Option D), deeps ps ≤ n → xs.length + sizes ps ≤ 5000 →
      (∀ o3 o4, E.nx [some (.ref l), some (.tup (pathD p)), some s.d, o3, o4] (mset M l (.lst (xs ++ (ndsL p i ps).map pairD)))) →
      sLoop (gTup (gCons (gName 3) (gCons (gName 4) gNil))) (sExpr (dCall (sp_add n) (dA (dV 0) (dA (dOp oAdd (dV 1) (dTup (dA (dV 3) dA0))) (dA (dV 4) dA0))))) (enumD i (says ps)) E [some (.ref l), some (.tup (pathD p)), some s.d, o3, o4] (mset M l (.lst xs)) := by
    intro E ps
    induction ps with
    | nil => intro i xs o3 o4 _ _ q; simpa [says, ndsL] using q o3 o4
    | cons t r ih =>
      intro i xs o3 o4 h1 h2 q
      simp only [deeps] at h1
      simp only [sizes] at h2
      simp [says]
      refine ⟨by omega, ?_⟩
      rw [← pathD_snoc]
      refine call_add (xs := xs) (by simp) (by omega) (by omega) (by simp; omega) ?_
      simp only [mset_mset]
      refine ih (i + 1) _ _ _ (by omega) (by rw [List.length_append, List.length_map, nds_length]; omega) ?_
      intro o3 o4
      have := q o3 o4
      simpa [ndsL] using this
  simp [t_add_nodes, hM]
  refine ⟨by omega, ?_⟩
  refine call_parts ?_
  refine loop _ s.parts 0 (xs ++ [.tup [.tup (pathD p), s.d]]) none none (by omega) (by simp; omega) ?_
  intro o3 o4
  refine Ret.now ?_
  intro l' xs' p' s' e1 e2
  simp only [List.cons.injEq, D.ref.injEq, D.tup.injEq, and_true] at e1
  obtain ⟨rfl, e0, e1⟩ := e1
  have e0 := pathD_inj e0
  subst e0
  rw [hM] at e2
  cases e2
  rw [← Say.d_inj e1]
  refine ⟨rfl, ?_⟩
  rw [nds_eq, List.append_assoc]
  rfl
/-- nothing is deeper than nought -/
theorem deep_pos (s : Say) : 1 ≤ s.deep := by cases s <;> simp [Say.deep]
theorem add_none (ds : List D) (M : Mem) : ¬ (sp_add 0).pre ds M := by
  rintro ⟨l, xs, p, s, _, _, h, _⟩
  have := deep_pos s
  omega
/-- what is asked of sayings here -/
def Fit (s : Say) : Prop := s.ok = true ∧ s.deep ≤ 8 ∧ s.size ≤ 4000
def sp_nodes : Spec := ⟨fun ds _ => ∃ s : Say, ds = [s.d] ∧ Fit s, fun ds M d M' => ∀ s : Say, ds = [s.d] → ∃ p, d = .ref p ∧ M p = none ∧ M' = mset M p (.tupP ((s.nds []).map pairD))⟩
theorem call_nodes {s : Say} {M : Mem} {Q : DK} (f : Fit s) (q : ∀ p, M p = none → Q (.ref p) (mset M p (.tupP ((s.nds []).map pairD)))) : sp_nodes.pre [s.d] M ∧ ∀ d M', sp_nodes.post [s.d] M d M' → Q d M' := by
  refine ⟨⟨s, rfl, f⟩, fun d M' p => ?_⟩
  obtain ⟨c, rfl, hc, rfl⟩ := p s rfl
  exact q c hc
theorem mdel_mset {M : Mem} {p : Addr} {o : MO} (h : M p = none) : mdel (mset M p o) p = M := by
  funext b
  unfold mdel mset
  by_cases e : b = p
  · rw [if_pos e, e, h]
  · rw [if_neg e, if_neg e]
theorem does_nodes_of : Does 2 (t_nodes_of (sp_add 8)) 1 sp_nodes := by
  rintro ds M hl ⟨s, rfl, f⟩
  obtain ⟨f1, f2, f3⟩ := f
  simp [t_nodes_of]
  intro p hp
  refine call_add (p := []) (xs := []) (by simp) f2 (by simp; omega) (by simp) ?_
  simp [oTupP, asL]
  intro p2 hp2
  have hne : p2 ≠ p := fun e => by rw [e] at hp2; simp at hp2
  have h2 : M p2 = none := by rw [mset_ne hne] at hp2; exact hp2
  refine Ret.same (M'' := mset M p2 (.tupP ((s.nds []).map pairD))) ?_ fun t h => ⟨p2, rfl, h2, by rw [one_inj h]⟩
  exact (Sub.lst hp).mset p2 _
/-- the names, each once -/
def namesL : List (List Nat × Say) → List Str → List Str
  | [], acc => acc
  | (_, .name x) :: r, acc => namesL r (if x ∈ acc then acc else acc ++ [x])
  | _ :: r, acc => namesL r acc
theorem namesL_le : ∀ (ns : List (List Nat × Say)) (acc : List Str), (namesL ns acc).length ≤ acc.length + ns.length
  | [], acc => by simp [namesL]
  | (p, s) :: r, acc => by
    cases s <;> simp only [namesL, List.length_cons]
    case name x =>
      split
      · have := namesL_le r acc; omega
      · have := namesL_le r (acc ++ [x]); simp at this; omega
    all_goals (have := namesL_le r acc; omega)
def sp_names : Spec := ⟨fun ds _ => ∃ s : Say, ds = [s.d] ∧ Fit s, fun ds M d M' => M' = M ∧ ∀ s : Say, ds = [s.d] → d = .tup ((namesL (s.nds []) []).map D.str)⟩
theorem call_names {s : Say} {M : Mem} {Q : DK} (f : Fit s) (q : Q (.tup ((namesL (s.nds []) []).map D.str)) M) : sp_names.pre [s.d] M ∧ ∀ d M', sp_names.post [s.d] M d M' → Q d M' := by
  refine ⟨⟨s, rfl, f⟩, fun d M' p => ?_⟩
  obtain ⟨rfl, p⟩ := p
  rw [p s rfl]
  exact q
theorem names_loop (E : DEnds) (M : Mem) (l : Addr) (sd : Option D) : ∀ (ns : List (List Nat × Say)) (acc : List Str) (o2 o3 : Option D), acc.length + ns.length ≤ 5000 →
    (∀ o2 o3, E.nx [sd, some (.ref l), o2, o3] (mset M l (.lst ((namesL ns acc).map D.str)))) →
    sLoop (gTup (gCons (gName 2) (gCons (gName 3) gNil))) (sIf (dAnd (dTest (dOp oEq (dOp oIx (dV 3) (dC (.int 0))) (dC (.str "name")))) (dTest (dOp oNotIn (dOp oIx (dV 3) (dC (.int 1))) (dV 1)))) (sExpr (dMeth mAppend (dV 1) (dOp oIx (dV 3) (dC (.int 1))))) sNext)
      (ns.map pairD) E [sd, some (.ref l), o2, o3] (mset M l (.lst (acc.map D.str)))
  | [], acc, o2, o3, _, q => by simpa [namesL] using q o2 o3
  | (p, s) :: r, acc, o2, o3, h, q => by
    simp only [List.length_cons] at h
    have next : ∀ o2 o3, (∀ o2 o3, E.nx [sd, some (.ref l), o2, o3] (mset M l (.lst ((namesL r acc).map D.str)))) → _ := fun o2 o3 => names_loop E M l sd r acc o2 o3 (by omega)
    cases s with
    | name x =>
      simp only [List.map_cons, pairD]
      simp [Say.d, atI, ixN]
      by_cases c : x ∈ acc
      · simp [c]
        refine next _ _ ?_
        simpa [namesL, c] using q
      · simp [c]
        refine ⟨by omega, ?_⟩
        have z := names_loop E M l sd r (acc ++ [x]) (some (.tup (pathD p))) (some (.tup [.str "name", .str x])) (by simp; omega) (by simpa [namesL, c] using q)
        simpa using z
    | made _ _ =>
      simp only [List.map_cons, pairD]
      simp [Say.d, atI, ixN, ofString_inj]
      exact next _ _ (by simpa [namesL] using q)
    | call _ _ =>
      simp only [List.map_cons, pairD]
      simp [Say.d, atI, ixN, ofString_inj]
      exact next _ _ (by simpa [namesL] using q)
    | either _ _ =>
      simp only [List.map_cons, pairD]
      simp [Say.d, atI, ixN, ofString_inj]
      exact next _ _ (by simpa [namesL] using q)
    | same _ _ =>
      simp only [List.map_cons, pairD]
      simp [Say.d, atI, ixN, ofString_inj]
      exact next _ _ (by simpa [namesL] using q)
    | skip =>
      simp only [List.map_cons, pairD]
      simp [Say.d, atI, ixN, ofString_inj]
      exact next _ _ (by simpa [namesL] using q)
theorem does_names_of : Does 4 (t_names_of sp_nodes) 1 sp_names := by
  rintro ds M hl ⟨s, rfl, f⟩
  simp [t_names_of]
  intro p hp
  refine call_nodes f fun p2 hp2 => ?_
  simp [mdel_mset hp2]
  refine names_loop _ M p _ (s.nds []) [] none none (by simp [nds_length]; have := f.2.2; omega) ?_
  intro o2 o3
  simp
  exact Ret.same (M'' := M) (Sub.lst hp) ⟨rfl, fun t h => by rw [one_inj h]⟩
/-! ### the same, part by part -/
mutual
/-- data that is the same as itself: no places, short rows -/
def selfOk : D → Bool
  | .non => true
  | .bl _ => true
  | .int _ => true
  | .str _ => true
  | .tup xs => decide (xs.length ≤ 100000) && selfOks xs
  | _ => false
def selfOks : List D → Bool
  | [] => true
  | x :: xs => selfOk x && selfOks xs
end
def sp_same (n : Nat) : Spec := ⟨fun ds _ => ∃ d, ds = [d, d] ∧ selfOk d = true ∧ depth d ≤ n, fun _ M d M' => d = .bl true ∧ M' = M⟩
theorem call_same {n : Nat} {d : D} {M : Mem} {Q : DK} (h : selfOk d = true) (hd : depth d ≤ n) (q : Q (.bl true) M) : (sp_same n).pre [d, d] M ∧ ∀ e M', (sp_same n).post [d, d] M e M' → Q e M' := by
  refine ⟨⟨d, rfl, h, hd⟩, fun e M' p => ?_⟩
  obtain ⟨rfl, rfl⟩ := p
  exact q
theorem dep_pos (d : D) : 1 ≤ depth d := by cases d <;> simp [depth]
theorem same_none (ds : List D) (M : Mem) : ¬ (sp_same 0).pre ds M := by
  rintro ⟨d, _, _, h⟩
  have := dep_pos d
  omega
def trues (n : Nat) : List D := List.replicate n (.bl true)
theorem trues_bools (n : Nat) : dBools (trues n) = some (List.replicate n true) := by
  induction n with
  | zero => rfl
  | succ n ih =>
    show dBools (.bl true :: trues n) = _
    rw [dBools_cons, ih]
    rfl
theorem all_true (n : Nat) : (List.replicate n true).all id = true := by
  induction n with
  | zero => rfl
  | succ n ih => rw [List.replicate_succ, List.all_cons, ih]; rfl
theorem trues_snoc (n : Nat) : trues n ++ [.bl true] = trues (n + 1) := by
  unfold trues
  rw [List.replicate_succ']
theorem same_comp (n : Nat) (ρ : Env) (h4 : 3 < ρ.length) (M : Mem) (Q : DK) : ∀ (xs : List D) (k : Nat), selfOks xs = true → depths xs ≤ n → Q (.lst (trues (k + xs.length))) M →
    dCompL (gTup (gCons (gName 2) (gCons (gName 3) gNil))) dYes (dCall (sp_same n) (dA (dV 2) (dA (dV 3) dA0))) ρ (zipD xs xs) (trues k) M Q
  | [], k, _, _, q => by simpa using q
  | x :: xs, k, h, hd, q => by
    simp only [selfOks, Bool.and_eq_true] at h
    simp only [depths] at hd
    have g2 : ((ρ.set 2 (some x)).set 3 (some x))[2]? = some (some x) := by
      rw [List.getElem?_set_ne (by decide), List.getElem?_set_self (by omega)]
    have g3 : ((ρ.set 2 (some x)).set 3 (some x))[3]? = some (some x) := by
      rw [List.getElem?_set_self (by rw [List.length_set]; exact h4)]
    simp only [zipD_cons, dCompL, gTup, gCons, gName, gNil, dYes, if_true, dCall, dA, dV, dA0, g2, g3]
    refine call_same h.1 (by omega) ?_
    rw [trues_snoc]
    refine same_comp n ρ h4 M Q xs (k + 1) h.2 (by omega) ?_
    rw [List.length_cons] at q
    rw [show k + 1 + xs.length = k + (xs.length + 1) by omega]
    exact q
theorem zipD_self_length : ∀ xs : List D, (zipD xs xs).length = xs.length
  | [] => rfl
  | _ :: xs => by simp [zipD_self_length xs]
theorem does_same (n : Nat) : Does 4 (t__law_same (sp_same n)) 2 (sp_same (n + 1)) := by
  rintro ds M hl ⟨d, rfl, h, hd⟩
  have fin : Ret (sp_same (n + 1)) [d, d] M (.bl true) M := Ret.now ⟨rfl, rfl⟩
  cases d with
  | tup xs =>
    simp only [selfOk, Bool.and_eq_true, decide_eq_true_eq] at h
    simp only [depth] at hd
    simp [t__law_same]
    rw [zipD_self_length]
    refine ⟨h.1, ?_⟩
    refine same_comp n _ (by simp) M _ xs 0 h.2 (by omega) ?_
    simp only [oAll_lst, trues_bools, all_true]
    exact fin
  | non => simpa [t__law_same] using fin
  | bl b => simpa [t__law_same] using fin
  | int b => simpa [t__law_same] using fin
  | str b => simpa [t__law_same] using fin
  | _ => simp [selfOk] at h
theorem says_append (a b : List Say) : says (a ++ b) = says a ++ says b := by
  induction a with
  | nil => rfl
  | cons s r ih => simp [says, ih]
/-! what is compared -/
mutual
theorem self_d : ∀ s : Say, s.ok = true → selfOk s.d = true
  | .name x, o => by simp [Say.d, selfOk, selfOks]
  | .skip, o => by simp [Say.d, selfOk, selfOks]
  | .made x ps, o => by
    have h3 := parts3 o
    have h := selfs_d ps (oks_parts (s := .made x ps) o)
    simp only [Say.parts] at h3
    simp [Say.d, selfOk, selfOks, h, says_length]
    omega
  | .call x ps, o => by
    have h3 := parts3 o
    have h := selfs_d ps (oks_parts (s := .call x ps) o)
    simp only [Say.parts] at h3
    simp [Say.d, selfOk, selfOks, h, says_length]
    omega
  | .either a b, o => by
    have h := oks_parts o
    simp only [Say.parts, oks, Bool.and_eq_true] at h
    simp [Say.d, selfOk, selfOks, self_d a h.1, self_d b h.2.1]
  | .same a b, o => by
    have h := oks_parts o
    simp only [Say.parts, oks, Bool.and_eq_true] at h
    simp [Say.d, selfOk, selfOks, self_d a h.1, self_d b h.2.1]
theorem selfs_d : ∀ ps : List Say, oks ps = true → selfOks (says ps) = true
  | [], _ => by simp [says, selfOks]
  | s :: r, o => by
    simp only [oks, Bool.and_eq_true] at o
    simp [says, selfOks, self_d s o.1, selfs_d r o.2]
end
theorem self_map {α : Type} (f : α → D) : ∀ xs : List α, (∀ x ∈ xs, selfOk (f x) = true) → selfOks (xs.map f) = true
  | [], _ => by simp [selfOks]
  | x :: r, h => by simp [selfOks, h x (by simp), self_map f r fun y hy => h y (List.mem_cons_of_mem _ hy)]
theorem depth_map {α : Type} (f : α → D) (n : Nat) : ∀ xs : List α, (∀ x ∈ xs, depth (f x) ≤ n) → depths (xs.map f) ≤ n
  | [], _ => by simp [depths]
  | x :: r, h => by
    have h1 := h x (by simp)
    have h2 := depth_map f n r fun y hy => h y (List.mem_cons_of_mem _ hy)
    simp only [List.map_cons, depths]
    omega
theorem oks_snoc : ∀ (l : List Say) (s : Say), oks l = true → s.ok = true → oks (l ++ [s]) = true
  | [], s, _, h => by simp [oks, h]
  | a :: r, s, h, hs => by
    simp only [List.cons_append, oks, Bool.and_eq_true] at h ⊢
    exact ⟨h.1, oks_snoc r s h.2 hs⟩
theorem deeps_snoc : ∀ (l : List Say) (s : Say) (m : Nat), deeps l ≤ m → s.deep ≤ m → deeps (l ++ [s]) ≤ m
  | [], s, m, _, h => by simp [deeps, h]
  | a :: r, s, m, h, hs => by
    rw [List.cons_append, deeps_cons]
    rw [deeps_cons] at h
    have := deeps_snoc r s m (by omega) hs
    omega
def fpD (q : Str × Say) : D := .tup [.str q.1, q.2.d]
theorem cmp_str {x : Str} (h : strOk x = true) : cmpOk (.str x) = true := by
  simp only [cmpOk, plain, depth, h, Bool.true_and]
  exact decide_eq_true (by omega)
theorem cmp_int (i : Int) : cmpOk (.int i) = true := by
  simp only [cmpOk, plain, depth, Bool.true_and]
  exact decide_eq_true (by omega)
/-! ### fitting -/
mutual
/-- names and mades alone -/
def Say.pat : Say → Bool
  | .name _ => true
  | .made _ ps => pats ps
  | _ => false
def pats : List Say → Bool
  | [] => true
  | s :: r => s.pat && pats r
end
mutual
def fitL : Say → Say → Option (List (Str × Say))
  | .name x, t => some [(x, t)]
  | .made h ps, .made g ts => if g = h ∧ ts.length = ps.length then fitLs ps ts else none
  | _, _ => none
def fitLs : List Say → List Say → Option (List (Str × Say))
  | [], _ => some []
  | _ :: _, [] => some []
  | p :: ps, t :: ts => match fitL p t with
    | none => none
    | some a => match fitLs ps ts with
      | none => none
      | some b => some (a ++ b)
end
def fitD : Option (List (Str × Say)) → D
  | none => .non
  | some a => .tup (a.map fpD)
mutual
theorem fitL_len : ∀ (p t : Say) (a : List (Str × Say)), fitL p t = some a → a.length ≤ p.size
  | .name x, t, a, h => by simp [fitL] at h; subst h; simp [Say.size]
  | .made x ps, .made g ts, a, h => by
    simp only [fitL] at h
    split at h
    · have := fitLs_len ps ts a h
      simp only [Say.size]; omega
    · cases h
  | .made x ps, .name _, a, h => by simp [fitL] at h
  | .made x ps, .call _ _, a, h => by simp [fitL] at h
  | .made x ps, .either _ _, a, h => by simp [fitL] at h
  | .made x ps, .same _ _, a, h => by simp [fitL] at h
  | .made x ps, .skip, a, h => by simp [fitL] at h
  | .call _ _, t, a, h => by simp [fitL] at h
  | .either _ _, t, a, h => by simp [fitL] at h
  | .same _ _, t, a, h => by simp [fitL] at h
  | .skip, t, a, h => by simp [fitL] at h
theorem fitLs_len : ∀ (ps ts : List Say) (a : List (Str × Say)), fitLs ps ts = some a → a.length ≤ sizes ps
  | [], _, a, h => by simp [fitLs] at h; subst h; simp
  | _ :: _, [], a, h => by simp [fitLs] at h; subst h; simp
  | p :: ps, t :: ts, a, h => by
    simp only [fitLs] at h
    split at h
    · cases h
    · rename_i b hb
      split at h
      · cases h
      · rename_i c hc
        cases h
        have h1 := fitL_len p t b hb
        have h2 := fitLs_len ps ts c hc
        simp only [List.length_append, sizes]
        omega
end
mutual
theorem fitL_all : ∀ (p t : Say) (a : List (Str × Say)), fitL p t = some a → t.ok = true → ∀ q ∈ a, q.2.ok = true ∧ q.2.deep ≤ t.deep
  | .name x, t, a, h, o, q, hq => by
    simp [fitL] at h; subst h
    rw [List.mem_singleton.mp hq]
    exact ⟨o, Nat.le_refl _⟩
  | .made x ps, .made g ts, a, h, o, q, hq => by
    simp only [fitL] at h
    split at h
    · have := fitLs_all ps ts a h (oks_parts (s := .made g ts) o) q hq
      simp only [Say.deep]
      exact ⟨this.1, by omega⟩
    · cases h
  | .made x ps, .name _, a, h, _, _, _ => by simp [fitL] at h
  | .made x ps, .call _ _, a, h, _, _, _ => by simp [fitL] at h
  | .made x ps, .either _ _, a, h, _, _, _ => by simp [fitL] at h
  | .made x ps, .same _ _, a, h, _, _, _ => by simp [fitL] at h
  | .made x ps, .skip, a, h, _, _, _ => by simp [fitL] at h
  | .call _ _, t, a, h, _, _, _ => by simp [fitL] at h
  | .either _ _, t, a, h, _, _, _ => by simp [fitL] at h
  | .same _ _, t, a, h, _, _, _ => by simp [fitL] at h
  | .skip, t, a, h, _, _, _ => by simp [fitL] at h
theorem fitLs_all : ∀ (ps ts : List Say) (a : List (Str × Say)), fitLs ps ts = some a → oks ts = true → ∀ q ∈ a, q.2.ok = true ∧ q.2.deep ≤ deeps ts
  | [], _, a, h, o, q, hq => by simp [fitLs] at h; subst h; simp at hq
  | _ :: _, [], a, h, o, q, hq => by simp [fitLs] at h; subst h; simp at hq
  | p :: ps, t :: ts, a, h, o, q, hq => by
    simp only [oks, Bool.and_eq_true] at o
    simp only [fitLs] at h
    rw [deeps_cons]
    split at h
    · cases h
    · rename_i b hb
      split at h
      · cases h
      · rename_i c hc
        cases h
        rcases List.mem_append.mp hq with hq | hq
        · have := fitL_all p t b hb o.1 q hq
          exact ⟨this.1, by omega⟩
        · have := fitLs_all ps ts c hc o.2 q hq
          exact ⟨this.1, by omega⟩
end
theorem two_inj {p t p' t' : Say} (h : [p.d, t.d] = [p'.d, t'.d]) : p' = p ∧ t' = t := by
  simp only [List.cons.injEq, and_true] at h
  exact ⟨(Say.d_inj h.1).symm, (Say.d_inj h.2).symm⟩
def sp_fitted (n : Nat) : Spec := ⟨fun ds _ => ∃ p t : Say, ds = [p.d, t.d] ∧ p.pat = true ∧ p.ok = true ∧ t.ok = true ∧ p.deep ≤ n ∧ p.size ≤ 5000,
  fun ds M d M' => M' = M ∧ ∀ p t : Say, ds = [p.d, t.d] → d = fitD (fitL p t)⟩
theorem call_fitted {n : Nat} {p t : Say} {M : Mem} {Q : DK} (h1 : p.pat = true) (h2 : p.ok = true) (h3 : t.ok = true) (h4 : p.deep ≤ n) (h5 : p.size ≤ 5000) (q : Q (fitD (fitL p t)) M) :
    (sp_fitted n).pre [p.d, t.d] M ∧ ∀ d M', (sp_fitted n).post [p.d, t.d] M d M' → Q d M' := by
  refine ⟨⟨p, t, rfl, h1, h2, h3, h4, h5⟩, fun d M' z => ?_⟩
  obtain ⟨rfl, z⟩ := z
  rw [z p t rfl]
  exact q
theorem fitted_none (ds : List D) (M : Mem) : ¬ (sp_fitted 0).pre ds M := by
  rintro ⟨p, t, _, _, _, _, h, _⟩
  have : 1 ≤ p.deep := by cases p <;> simp [Say.deep]
  omega
abbrev fbody (n : Nat) : DS := (sSeq (sAsg (dCall (sp_fitted n) (dA (dV 3) (dA (dV 4) dA0))) (gName 5))
  (sSeq (sIf (dTest (dUn oIsN (dV 5))) (sRet (dC .non)) sNext)
  (sAsg (dOp oAdd (dV 2) (dV 5)) (gName 2))))
theorem fitted_loop (n : Nat) (E : DEnds) (M : Mem) (o0 o1 : Option D) : ∀ (ps ts : List Say) (acc : List (Str × Say)) (o3 o4 o5 : Option D), pats ps = true → oks ps = true → oks ts = true → deeps ps ≤ n → sizes ps ≤ 5000 → acc.length + sizes ps ≤ 90000 →
    (∀ b o3 o4 o5, fitLs ps ts = some b → E.nx [o0, o1, some (.tup ((acc ++ b).map fpD)), o3, o4, o5] M) → (fitLs ps ts = none → E.rt .non M) →
    sLoop (gTup (gCons (gName 3) (gCons (gName 4) gNil))) (fbody n) (zipD (says ps) (says ts)) E [o0, o1, some (.tup (acc.map fpD)), o3, o4, o5] M := by
  intro ps
  induction ps with
  | nil =>
    intro ts acc o3 o4 o5 _ _ _ _ _ _ hn hr
    have := hn [] o3 o4 o5 (by simp [fitLs])
    rw [List.append_nil] at this
    simpa [says, zipD] using this
  | cons p ps ih =>
    intro ts acc o3 o4 o5 h1 h2 h3 h4 h5 h6 hn hr
    cases ts with
    | nil =>
      have := hn [] o3 o4 o5 (by simp [fitLs])
      rw [List.append_nil] at this
      simpa [says, zipD] using this
    | cons t ts =>
      simp only [pats, Bool.and_eq_true] at h1
      simp only [oks, Bool.and_eq_true] at h2 h3
      rw [deeps_cons] at h4
      simp only [sizes] at h5 h6
      simp only [says, zipD_cons, sLoop]
      have z := fun (a : List (Str × Say)) (ha : a.length ≤ p.size) (o3 o4 o5 : Option D) => ih ts (acc ++ a) o3 o4 o5 h1.2 h2.2 h3.2 (by omega) (by omega) (by simp; omega)
      simp only [fitLs] at hn hr
      generalize sLoop (gTup (gCons (gName 3) (gCons (gName 4) gNil))) (fbody n) (zipD (says ps) (says ts)) E = N at z ⊢
      simp only [gTup, gCons, gName, gNil, fbody, sSeq, sAsg, dCall, dA, dV, dA0, List.set, List.getElem?_cons_zero, List.getElem?_cons_succ]
      refine call_fitted h1.1 h2.1 h3.1 (by omega) (by omega) ?_
      cases e : fitL p t with
      | none =>
        rw [e] at hr
        simpa [fitD] using hr rfl
      | some a =>
        rw [e] at hn hr
        have ha := fitL_len p t a e
        have zz := z a ha (some p.d) (some t.d) (some (.tup (a.map fpD))) ?_ ?_
        · simp [fitD]
          refine ⟨by omega, ?_⟩
          rw [List.map_append] at zz
          exact zz
        · intro b o3 o4 o5 hb
          have := hn (a ++ b) o3 o4 o5 (by rw [hb])
          rwa [← List.append_assoc] at this
        · intro hb
          exact hr (by rw [hb])
theorem does_fitted (n : Nat) : Does 6 (t_fitted (sp_fitted n)) 2 (sp_fitted (n + 1)) := by
  rintro ds M hl ⟨p, t, rfl, h1, h2, h3, h4, h5⟩
  have fin : ∀ d, d = fitD (fitL p t) → Ret (sp_fitted (n + 1)) [p.d, t.d] M d M := fun d hd => by
    refine Ret.now ⟨rfl, fun p' t' e => ?_⟩
    obtain ⟨rfl, rfl⟩ := two_inj e
    exact hd
  cases p with
  | name x =>
    have f := fin _ rfl
    simp [fitL, fitD, fpD] at f
    simpa [t_fitted, Say.d, atI, ixN, cmp_str, strOk_of, ofString_inj] using f
  | made x ps =>
    have ox : strOk x = true := by simp only [Say.ok, Bool.and_eq_true] at h2; exact nm_str h2.1.1
    have hp3 := parts3 h2
    have op := oks_parts h2
    simp only [Say.parts] at hp3 op
    cases t with
    | made g ts =>
      have og : strOk g = true := by simp only [Say.ok, Bool.and_eq_true] at h3; exact nm_str h3.1.1
      have ot := oks_parts h3
      have ht3 := parts3 h3
      simp only [Say.parts] at ot ht3
      simp only [Say.pat] at h1
      simp only [Say.deep] at h4
      simp only [Say.size] at h5
      have z := fitted_loop n { nx := fun ρ M' => sRet (dV 2) { nx := fun _ M' => Ret (sp_fitted (n + 1)) [(Say.made x ps).d, (Say.made g ts).d] M .non M', rt := Ret (sp_fitted (n + 1)) [(Say.made x ps).d, (Say.made g ts).d] M } ρ M', rt := Ret (sp_fitted (n + 1)) [(Say.made x ps).d, (Say.made g ts).d] M } M (some (Say.made x ps).d) (some (Say.made g ts).d) ps ts [] none none none h1 op ot (by omega) (by omega) (by simp; omega)
      by_cases e : g = x ∧ ts.length = ps.length
      · have fe : fitL (.made x ps) (.made g ts) = fitLs ps ts := by simp only [fitL]; rw [if_pos e]
        rw [fe] at fin
        have z2 := z (fun b o3 o4 o5 hb => by simpa using fin _ (by rw [hb]; rfl)) (fun hb => fin _ (by rw [hb]; rfl))
        generalize hb : fbody n = bb at z2
        obtain ⟨e1, e2⟩ := e
        subst e1
        have hl1 := says_length ps
        have hl2 := says_length ts
        have tt : t_fitted (sp_fitted n) = (sSeq (sIf (dTest (dOp oEq (dOp oIx (dV 0) (dC (.int 0))) (dC (.str "name")))) (sRet (dTup (dA (dTup (dA (dOp oIx (dV 0) (dC (.int 1))) (dA (dV 1) dA0))) dA0))) sNext)
          (sSeq (sIf (dOr (dTest (dOp oNe (dOp oIx (dV 1) (dC (.int 0))) (dC (.str "made")))) (dOr (dTest (dOp oNe (dOp oIx (dV 1) (dC (.int 1))) (dOp oIx (dV 0) (dC (.int 1))))) (dTest (dOp oNe (dUn oLen (dOp oIx (dV 1) (dC (.int 2)))) (dUn oLen (dOp oIx (dV 0) (dC (.int 2)))))))) (sRet (dC .non)) sNext)
          (sSeq (sAsg (dTup dA0) (gName 2))
          (sSeq (sFor (iZip (dOp oIx (dV 0) (dC (.int 2))) (dOp oIx (dV 1) (dC (.int 2)))) (gTup (gCons (gName 3) (gCons (gName 4) gNil))) bb)
          (sRet (dV 2)))))) := by rw [← hb]; rfl
        rw [tt]
        simp [Say.d, atI, ixN, cmp_str, strOk_of, ofString_inj, ox, hl1, hl2, e2]
        exact z2
      · have fe : fitL (.made x ps) (.made g ts) = none := by simp only [fitL]; rw [if_neg e]
        rw [fe] at fin
        have f := fin .non rfl
        have hl1 := says_length ps
        have hl2 := says_length ts
        by_cases e1 : g = x
        · have e2 : ¬ ts.length = ps.length := fun h => e ⟨e1, h⟩
          subst e1
          have e2' : ¬ ((ts.length : Int) = (ps.length : Int)) := by omega
          simp [t_fitted, Say.d, atI, ixN, cmp_str, strOk_of, ofString_inj, ox, hl1, hl2, e2, e2'] at f ⊢
          exact f
        · simp [t_fitted, Say.d, atI, ixN, cmp_str, strOk_of, ofString_inj, ox, og, e1] at f ⊢
          exact f
    | name y => have f := fin .non rfl; simp [Say.d] at f; simpa [t_fitted, Say.d, atI, ixN, cmp_str, strOk_of, ofString_inj] using f
    | call y qs => have f := fin .non rfl; simp [Say.d] at f; simpa [t_fitted, Say.d, atI, ixN, cmp_str, strOk_of, ofString_inj] using f
    | either a b => have f := fin .non rfl; simp [Say.d] at f; simpa [t_fitted, Say.d, atI, ixN, cmp_str, strOk_of, ofString_inj] using f
    | same a b => have f := fin .non rfl; simp [Say.d] at f; simpa [t_fitted, Say.d, atI, ixN, cmp_str, strOk_of, ofString_inj] using f
    | skip => have f := fin .non rfl; simp [Say.d] at f; simpa [t_fitted, Say.d, atI, ixN, cmp_str, strOk_of, ofString_inj] using f
  | _ => simp [Say.pat] at h1
/-! ### filling -/
def lkp : List (Str × Say) → Str → Option Say
  | [], _ => none
  | q :: r, x => if q.1 = x then some q.2 else lkp r x
mutual
def Say.put (fs : List (Str × Say)) : Say → Say
  | .name x => (lkp fs x).getD (.name x)
  | .skip => .skip
  | .made h ps => .made h (puts fs ps)
  | .call h ps => .call h (puts fs ps)
  | .either a b => .either (a.put fs) (b.put fs)
  | .same a b => .same (a.put fs) (b.put fs)
def puts (fs : List (Str × Say)) : List Say → List Say
  | [] => []
  | s :: r => s.put fs :: puts fs r
end
theorem puts_length (fs : List (Str × Say)) : ∀ ps : List Say, (puts fs ps).length = ps.length
  | [] => rfl
  | s :: r => by simp only [puts, List.length_cons, puts_length fs r]
mutual
theorem put_nil : ∀ s : Say, s.put [] = s
  | .name x => rfl
  | .skip => rfl
  | .made h ps => by simp only [Say.put, puts_nil ps]
  | .call h ps => by simp only [Say.put, puts_nil ps]
  | .either a b => by simp only [Say.put, put_nil a, put_nil b]
  | .same a b => by simp only [Say.put, put_nil a, put_nil b]
theorem puts_nil : ∀ ps : List Say, puts [] ps = ps
  | [] => rfl
  | s :: r => by simp only [puts, put_nil s, puts_nil r]
end
theorem lkp_mem : ∀ {fs : List (Str × Say)} {x : Str} {s : Say}, lkp fs x = some s → ∃ q ∈ fs, q.2 = s
  | [], _, _, h => by cases h
  | q :: r, x, s, h => by
    simp only [lkp] at h
    split at h
    · exact ⟨q, by simp, Option.some.inj h⟩
    · obtain ⟨z, hz, e⟩ := lkp_mem h
      exact ⟨z, List.mem_cons_of_mem _ hz, e⟩
def FitF (fs : List (Str × Say)) : Prop := ∀ q ∈ fs, strOk q.1 = true ∧ q.2.ok = true ∧ q.2.deep ≤ 3
mutual
theorem put_ok {fs : List (Str × Say)} (f : FitF fs) : ∀ s : Say, s.ok = true → (s.put fs).ok = true ∧ (s.put fs).deep ≤ s.deep + 2
  | .name x, o => by
    simp only [Say.put]
    cases e : lkp fs x with
    | none => exact ⟨o, by simp⟩
    | some t =>
      obtain ⟨q, hq, rfl⟩ := lkp_mem e
      have := f q hq
      exact ⟨this.2.1, by simp only [Option.getD_some, Say.deep]; omega⟩
  | .skip, o => ⟨rfl, by simp [Say.put]⟩
  | .made h ps, o => by
    simp only [Say.ok, Bool.and_eq_true, decide_eq_true_eq] at o
    have := puts_ok f ps o.2
    simp only [Say.put, Say.ok, Bool.and_eq_true, decide_eq_true_eq, puts_length, Say.deep]
    exact ⟨⟨o.1, this.1⟩, by omega⟩
  | .call h ps, o => by
    simp only [Say.ok, Bool.and_eq_true, decide_eq_true_eq] at o
    have := puts_ok f ps o.2
    simp only [Say.put, Say.ok, Bool.and_eq_true, decide_eq_true_eq, puts_length, Say.deep]
    exact ⟨⟨o.1, this.1⟩, by omega⟩
  | .either a b, o => by
    simp only [Say.ok, Bool.and_eq_true] at o
    have h1 := put_ok f a o.1
    have h2 := put_ok f b o.2
    simp only [Say.put, Say.ok, Bool.and_eq_true, Say.deep]
    exact ⟨⟨h1.1, h2.1⟩, by omega⟩
  | .same a b, o => by
    simp only [Say.ok, Bool.and_eq_true] at o
    have h1 := put_ok f a o.1
    have h2 := put_ok f b o.2
    simp only [Say.put, Say.ok, Bool.and_eq_true, Say.deep]
    exact ⟨⟨h1.1, h2.1⟩, by omega⟩
theorem puts_ok {fs : List (Str × Say)} (f : FitF fs) : ∀ ps : List Say, oks ps = true → oks (puts fs ps) = true ∧ deeps (puts fs ps) ≤ deeps ps + 2
  | [], o => by simp [puts, oks, deeps]
  | s :: r, o => by
    simp only [oks, Bool.and_eq_true] at o
    have h1 := put_ok f s o.1
    have h2 := puts_ok f r o.2
    simp only [puts, oks, Bool.and_eq_true, deeps]
    exact ⟨⟨h1.1, h2.1⟩, by omega⟩
end
/-! the program's -/
def Say.re : Say → List Say → Say
  | .made h _, ps => .made h ps
  | .call h _, ps => .call h ps
  | .either _ _, [a, b] => .either a b
  | .same _ _, [a, b] => .same a b
  | s, _ => s
theorem put_re (fs : List (Str × Say)) (s : Say) (h : ∀ x, s ≠ .name x) : s.put fs = s.re (puts fs s.parts) := by
  cases s with
  | name x => exact (h x rfl).elim
  | _ => rfl
def sp_rebuilt : Spec := ⟨fun ds _ => ∃ (s : Say) (ps : List Say), ds = [s.d, .lst (says ps)] ∧ ps.length = s.parts.length ∧ ps.length ≤ 100, fun ds M d M' => M' = M ∧ ∀ (s : Say) (ps : List Say), ds = [s.d, .lst (says ps)] → d = (s.re ps).d⟩
theorem call_rebuilt {s : Say} {ps : List Say} {M : Mem} {Q : DK} (h1 : ps.length = s.parts.length) (h2 : ps.length ≤ 100) (q : Q (s.re ps).d M) : sp_rebuilt.pre [s.d, .lst (says ps)] M ∧ ∀ d M', sp_rebuilt.post [s.d, .lst (says ps)] M d M' → Q d M' := by
  refine ⟨⟨s, ps, rfl, h1, h2⟩, fun d M' p => ?_⟩
  obtain ⟨rfl, p⟩ := p
  rw [p s ps rfl]
  exact q
theorem does_rebuilt : Does 2 t_rebuilt 2 sp_rebuilt := by
  rintro ds M hl ⟨s, ps, rfl, h1, h2⟩
  have hsl := says_length ps
  have fin : Ret sp_rebuilt [s.d, .lst (says ps)] M (s.re ps).d M := Ret.now ⟨rfl, fun s' ps' e => by
    simp only [List.cons.injEq, D.lst.injEq, and_true] at e
    rw [Say.d_inj e.1, says_inj e.2]⟩
  cases s with
  | name x => simpa [t_rebuilt, Say.d, Say.re, atI2_0, ofString_inj] using fin
  | skip => simpa [t_rebuilt, Say.d, Say.re, atI, ixN, ofString_inj] using fin
  | made h qs => simpa [t_rebuilt, Say.d, Say.re, atI3_0, atI3_1, ofString_inj] using fin
  | call h qs => simpa [t_rebuilt, Say.d, Say.re, atI3_0, atI3_1, ofString_inj] using fin
  | either a b =>
    match ps, h1 with
    | [c, e], _ => simpa [t_rebuilt, Say.d, Say.re, says, atI3_0, ofString_inj] using fin
  | same a b =>
    match ps, h1 with
    | [c, e], _ => simpa [t_rebuilt, Say.d, Say.re, says, atI3_0, ofString_inj] using fin
def fkD (fs : List (Str × Say)) : D := .dK (fs.map fun q => .inr q.1) (fs.map fun q => q.2.d)
theorem fk_inj : ∀ {fs gs : List (Str × Say)}, fkD fs = fkD gs → gs = fs
  | [], [], _ => rfl
  | [], _ :: _, h => by simp [fkD] at h
  | _ :: _, [], h => by simp [fkD] at h
  | (x, s) :: fs, (y, t) :: gs, h => by
    simp only [fkD, List.map_cons, D.dK.injEq, List.cons.injEq, Sum.inr.injEq] at h
    have := fk_inj (fs := fs) (gs := gs) (by simp only [fkD, D.dK.injEq]; exact ⟨h.1.2, h.2.2⟩)
    rw [this, h.1.1, Say.d_inj h.2.1]
theorem fp_inj : ∀ {fs gs : List (Str × Say)}, fs.map fpD = gs.map fpD → gs = fs
  | [], [], _ => rfl
  | [], _ :: _, h => by simp at h
  | _ :: _, [], h => by simp at h
  | (x, s) :: fs, (y, t) :: gs, h => by
    simp only [List.map_cons, fpD, List.cons.injEq, D.tup.injEq, D.str.injEq, and_true] at h
    rw [fp_inj h.2, h.1.1, Say.d_inj h.1.2]
theorem val_lkp : ∀ (fs : List (Str × Say)) (x : Str), valD (fs.map fun q => (.inr q.1 : Key)) (fs.map fun q => q.2.d) (.inr x) = (lkp fs x).map Say.d
  | [], x => rfl
  | (y, s) :: fs, x => by
    simp only [List.map_cons, valD, lkp, Sum.inr.injEq]
    split
    · rfl
    · exact val_lkp fs x
def sp_fby (n : Nat) : Spec := ⟨fun ds _ => ∃ (s : Say) (fs : List (Str × Say)), ds = [s.d, fkD fs] ∧ s.ok = true ∧ s.deep ≤ n, fun ds M d M' => M' = M ∧ ∀ (s : Say) (fs : List (Str × Say)), ds = [s.d, fkD fs] → d = (s.put fs).d⟩
theorem call_fby {n : Nat} {s : Say} {fs : List (Str × Say)} {M : Mem} {Q : DK} (h1 : s.ok = true) (h2 : s.deep ≤ n) (q : Q (s.put fs).d M) : (sp_fby n).pre [s.d, fkD fs] M ∧ ∀ d M', (sp_fby n).post [s.d, fkD fs] M d M' → Q d M' := by
  refine ⟨⟨s, fs, rfl, h1, h2⟩, fun d M' p => ?_⟩
  obtain ⟨rfl, p⟩ := p
  rw [p s fs rfl]
  exact q
theorem fby_none (ds : List D) (M : Mem) : ¬ (sp_fby 0).pre ds M := by
  rintro ⟨s, fs, _, _, h⟩
  have : 1 ≤ s.deep := by cases s <;> simp [Say.deep]
  omega
theorem fby_comp (n : Nat) (fs : List (Str × Say)) (M : Mem) (Q : DK) (ρ : Env) (r1 : ρ[1]? = some (some (fkD fs))) (r2 : 2 < ρ.length) : ∀ (ps ss : List Say), oks ps = true → deeps ps ≤ n → Q (.lst (says (ss ++ puts fs ps))) M →
    dCompL (gName 2) dYes (dCall (sp_fby n) (dA (dV 2) (dA (dV 1) dA0))) ρ (says ps) (says ss) M Q := by
  intro ps
  induction ps with
  | nil => intro ss _ _ q; simpa [says, puts] using q
  | cons p ps ih =>
    intro ss h1 h2 q
    simp only [oks, Bool.and_eq_true] at h1
    rw [deeps_cons] at h2
    have g1 : (ρ.set 2 (some p.d))[1]? = some (some (fkD fs)) := by rw [List.getElem?_set_ne (by decide)]; exact r1
    have g2 : (ρ.set 2 (some p.d))[2]? = some (some p.d) := by rw [List.getElem?_set_self r2]
    simp only [says, dCompL, gName, dYes, if_true, dCall, dA, dV, dA0, g1, g2]
    refine call_fby h1.1 (by omega) ?_
    have e : says ss ++ [(p.put fs).d] = says (ss ++ [p.put fs]) := by rw [says_append]; rfl
    rw [e]
    refine ih (ss ++ [p.put fs]) h1.2 (by omega) ?_
    simpa [puts, List.append_assoc] using q
theorem does_fby (n : Nat) : Does 3 (t_filled_by sp_rebuilt sp_parts (sp_fby n)) 2 (sp_fby (n + 1)) := by
  rintro ds M hl ⟨s, fs, rfl, h1, h2⟩
  have fin : ∀ d, d = (s.put fs).d → Ret (sp_fby (n + 1)) [s.d, fkD fs] M d M := fun d hd => Ret.now ⟨rfl, fun s' fs' e => by
    simp only [List.cons.injEq, and_true] at e
    rw [← Say.d_inj e.1, fk_inj e.2]
    exact hd⟩
  have hp3 := parts3 h1
  have hd := deep_parts s
  have hsl := says_length s.parts
  by_cases hn : ∃ x, s = .name x
  · obtain ⟨x, rfl⟩ := hn
    have f := fin _ rfl
    have e : ((lkp fs x).map Say.d).getD (Say.name x).d = ((Say.name x).put fs).d := by
      simp only [Say.put]
      cases lkp fs x <;> rfl
    rw [← e] at f
    simp [Say.d, fkD] at f
    simp [t_filled_by, Say.d, fkD, atI2_0, atI2_1, cmp_str, strOk_of, val_lkp]
    exact f
  · have hne : ∀ x, s ≠ .name x := fun x e => hn ⟨x, e⟩
    have z := fby_comp n fs M (fun d M' => sp_rebuilt.pre [s.d, d] M' ∧ ∀ e M2, sp_rebuilt.post [s.d, d] M' e M2 → Ret (sp_fby (n + 1)) [s.d, fkD fs] M e M2) [some s.d, some (fkD fs), none] rfl (by simp) s.parts [] (oks_parts h1) (by omega) (by
      rw [List.nil_append]
      refine call_rebuilt (puts_length fs s.parts) (by rw [puts_length]; omega) ?_
      rw [← put_re fs s hne]
      exact fin _ rfl)
    have hd0 : ∃ (w : String) (r : List D), s.d = .tup (.str w :: r) ∧ w ≠ "name" := by
      cases s with
      | name x => exact (hne x rfl).elim
      | skip => exact ⟨"skip", _, rfl, by decide⟩
      | made h ps => exact ⟨"made", _, rfl, by decide⟩
      | call h ps => exact ⟨"call", _, rfl, by decide⟩
      | either a b => exact ⟨"either", _, rfl, by decide⟩
      | same a b => exact ⟨"same", _, rfl, by decide⟩
    obtain ⟨w, r, ew, hw⟩ := hd0
    have e0 : atI (D.str (Str.ofString w) :: r) 0 = some (.str (Str.ofString w)) := by
      unfold atI ixN
      simp
    have t1 : ∀ (E : DEnds) (ρ : Env), (ρ[0]? = some (some s.d)) → (sIf (dTest (dOp oEq (dOp oIx (dV 0) (dC (.int 0))) (dC (.str "name")))) (sRet (dGet2 (dV 1) (dOp oIx (dV 0) (dC (.int 1))) (dV 0))) sNext) E ρ M = E.nx ρ M := by
      intro E ρ hρ
      rw [ew] at hρ
      simp [hρ, e0, cmp_str, strOk_of, ofString_inj, hw]
    show (sIf (dTest (dOp oEq (dOp oIx (dV 0) (dC (.int 0))) (dC (.str "name")))) (sRet (dGet2 (dV 1) (dOp oIx (dV 0) (dC (.int 1))) (dV 0))) sNext) _ [some s.d, some (fkD fs), none] M
    rw [t1 _ _ rfl]
    show sp_parts.pre [s.d] M ∧ ∀ d M', sp_parts.post [s.d] M d M' → _
    refine call_parts ?_
    exact ⟨by rw [hsl]; omega, z⟩
def sp_filled (n : Nat) : Spec := ⟨fun ds _ => ∃ (s : Say) (fs : List (Str × Say)), ds = [s.d, .tup (fs.map fpD)] ∧ s.ok = true ∧ s.deep ≤ n ∧ (fs.map (·.1)).Nodup ∧ fs.length ≤ 1000, fun ds M d M' => M' = M ∧ ∀ (s : Say) (fs : List (Str × Say)), ds = [s.d, .tup (fs.map fpD)] → d = (s.put fs).d⟩
theorem call_filled {n : Nat} {s : Say} {fs : List (Str × Say)} {M : Mem} {Q : DK} (h1 : s.ok = true) (h2 : s.deep ≤ n) (h3 : (fs.map (·.1)).Nodup) (h4 : fs.length ≤ 1000) (q : Q (s.put fs).d M) : (sp_filled n).pre [s.d, .tup (fs.map fpD)] M ∧ ∀ d M', (sp_filled n).post [s.d, .tup (fs.map fpD)] M d M' → Q d M' := by
  refine ⟨⟨s, fs, rfl, h1, h2, h3, h4⟩, fun d M' p => ?_⟩
  obtain ⟨rfl, p⟩ := p
  rw [p s fs rfl]
  exact q
theorem filled_comp (M : Mem) (Q : DK) (ρ : Env) (r3 : 3 < ρ.length) : ∀ (fs as : List (Str × Say)), ((as ++ fs).map (·.1)).Nodup → Q (fkD (as ++ fs)) M →
    dDCompL (gTup (gCons (gName 2) (gCons (gName 3) gNil))) dYes (dV 2) (dV 3) ρ (fs.map fpD) (as.map fun q => .inr q.1) (as.map fun q => q.2.d) M Q := by
  intro fs
  induction fs with
  | nil => intro as _ q; simpa [dDCompL, fkD] using q
  | cons f fs ih =>
    intro as hn q
    have g2 : ((ρ.set 2 (some (.str f.1))).set 3 (some f.2.d))[2]? = some (some (.str f.1)) := by
      rw [List.getElem?_set_ne (by decide), List.getElem?_set_self (by omega)]
    have g3 : ((ρ.set 2 (some (.str f.1))).set 3 (some f.2.d))[3]? = some (some f.2.d) := by
      rw [List.getElem?_set_self (by rw [List.length_set]; exact r3)]
    have z := ih (as ++ [f]) (by simpa [List.append_assoc] using hn) (by simpa [List.append_assoc] using q)
    have hk : (Sum.inr f.1 : Key) ∉ as.map fun q => (.inr q.1 : Key) := by
      intro h
      obtain ⟨p, hp, e⟩ := List.mem_map.mp h
      have e : p.1 = f.1 := Sum.inr.inj e
      rw [List.map_append, List.nodup_append] at hn
      exact hn.2.2 p.1 (List.mem_map_of_mem hp) f.1 (by simp) e
    simp only [List.map_cons, dDCompL, fpD, gTup, gCons, gName, gNil, dYes, if_true, dV, g2, g3, keyOf_str]
    refine ⟨hk, ?_⟩
    simpa using z
theorem does_filled (n : Nat) : Does 4 (t_filled (sp_fby n)) 2 (sp_filled n) := by
  rintro ds M hl ⟨s, fs, rfl, h1, h2, h3, h4⟩
  have fin : Ret (sp_filled n) [s.d, .tup (fs.map fpD)] M (s.put fs).d M := Ret.now ⟨rfl, fun s' fs' e => by
    simp only [List.cons.injEq, D.tup.injEq, and_true] at e
    rw [Say.d_inj e.1, fp_inj e.2]⟩
  have z := filled_comp M (fun d M' => (sp_fby n).pre [s.d, d] M' ∧ ∀ e M2, (sp_fby n).post [s.d, d] M' e M2 → Ret (sp_filled n) [s.d, .tup (fs.map fpD)] M e M2) [some s.d, some (.tup (fs.map fpD)), none, none] (by simp) fs [] (by simpa using h3) (by
    rw [List.nil_append]
    exact call_fby h1 h2 fin)
  show (fs.map fpD).length ≤ 100000 ∧ _
  exact ⟨by rw [List.length_map]; omega, z⟩
/-! ### fitted and filled, plainly -/
mutual
/-- the names, as they stand -/
def Say.nm : Say → List Str
  | .name x => [x]
  | .made _ ps => nmL ps
  | _ => []
def nmL : List Say → List Str
  | [] => []
  | s :: r => s.nm ++ nmL r
end
theorem namesL_append : ∀ (a b : List (List Nat × Say)) (acc : List Str), namesL (a ++ b) acc = namesL b (namesL a acc)
  | [], b, acc => rfl
  | (p, s) :: r, b, acc => by
    cases s <;> simp only [List.cons_append, namesL] <;> exact namesL_append r b _
mutual
theorem names_nm : ∀ (s : Say) (pre : List Nat) (acc : List Str), s.pat = true → (acc ++ s.nm).Nodup → namesL (s.nds pre) acc = acc ++ s.nm
  | .name x, pre, acc, _, h => by
    simp only [Say.nm] at h ⊢
    have hx : x ∉ acc := by
      rw [List.nodup_append] at h
      exact fun z => h.2.2 x z x (by simp) rfl
    simp [Say.nds, namesL, hx]
  | .made g ps, pre, acc, hp, h => by
    simp only [Say.nm] at h ⊢
    simp only [Say.pat] at hp
    simp only [Say.nds, namesL]
    exact names_nmL ps pre 0 acc hp h
  | .skip, _, _, hp, _ => by simp [Say.pat] at hp
  | .call _ _, _, _, hp, _ => by simp [Say.pat] at hp
  | .either _ _, _, _, hp, _ => by simp [Say.pat] at hp
  | .same _ _, _, _, hp, _ => by simp [Say.pat] at hp
theorem names_nmL : ∀ (ps : List Say) (pre : List Nat) (i : Nat) (acc : List Str), pats ps = true → (acc ++ nmL ps).Nodup → namesL (ndsL pre i ps) acc = acc ++ nmL ps
  | [], pre, i, acc, _, _ => by simp [ndsL, namesL, nmL]
  | s :: r, pre, i, acc, hp, h => by
    simp only [pats, Bool.and_eq_true] at hp
    simp only [nmL] at h ⊢
    rw [← List.append_assoc] at h
    have h1 : (acc ++ s.nm).Nodup := (List.nodup_append.mp h).1
    simp only [ndsL]
    rw [namesL_append, names_nm s _ acc hp.1 h1, names_nmL r pre (i + 1) _ hp.2 h, List.append_assoc]
end
mutual
theorem fit_nm : ∀ (p t : Say) (a : List (Str × Say)), fitL p t = some a → a.map (·.1) = p.nm
  | .name x, t, a, h => by
    simp only [fitL] at h
    cases h
    rfl
  | .made g ps, t, a, h => by
    cases t with
    | made k ts =>
      simp only [fitL] at h
      split at h
      · rename_i c
        simp only [Say.nm]
        exact fits_nm ps ts a c.2 h
      · cases h
    | _ => simp [fitL] at h
  | .skip, _, _, h => by simp [fitL] at h
  | .call _ _, _, _, h => by simp [fitL] at h
  | .either _ _, _, _, h => by simp [fitL] at h
  | .same _ _, _, _, h => by simp [fitL] at h
theorem fits_nm : ∀ (ps ts : List Say) (a : List (Str × Say)), ts.length = ps.length → fitLs ps ts = some a → a.map (·.1) = nmL ps
  | [], ts, a, _, h => by
    simp only [fitLs] at h
    cases h
    rfl
  | p :: ps, [], a, hl, _ => by simp at hl
  | p :: ps, t :: ts, a, hl, h => by
    simp only [fitLs] at h
    cases e1 : fitL p t with
    | none => rw [e1] at h; cases h
    | some x =>
      cases e2 : fitLs ps ts with
      | none => rw [e1, e2] at h; cases h
      | some y =>
        rw [e1, e2] at h
        cases h
        rw [List.map_append, fit_nm p t x e1, fits_nm ps ts y (by simpa using hl) e2]
        rfl
end
mutual
theorem fit_put (fs : List (Str × Say)) : ∀ (p t : Say) (a : List (Str × Say)), fitL p t = some a → (∀ q ∈ a, lkp fs q.1 = some q.2) → p.put fs = t
  | .name x, t, a, h, hf => by
    simp only [fitL] at h
    cases h
    have := hf (x, t) (by simp)
    simp only at this
    simp [Say.put, this]
  | .made g ps, t, a, h, hf => by
    cases t with
    | made k ts =>
      simp only [fitL] at h
      split at h
      · rename_i c
        simp only [Say.put]
        rw [fits_put fs ps ts a c.2 h hf, c.1]
      · cases h
    | _ => simp [fitL] at h
  | .skip, _, _, h, _ => by simp [fitL] at h
  | .call _ _, _, _, h, _ => by simp [fitL] at h
  | .either _ _, _, _, h, _ => by simp [fitL] at h
  | .same _ _, _, _, h, _ => by simp [fitL] at h
theorem fits_put (fs : List (Str × Say)) : ∀ (ps ts : List Say) (a : List (Str × Say)), ts.length = ps.length → fitLs ps ts = some a → (∀ q ∈ a, lkp fs q.1 = some q.2) → puts fs ps = ts
  | [], ts, a, hl, _, _ => by
    cases ts with
    | nil => rfl
    | cons _ _ => simp at hl
  | p :: ps, [], a, hl, _, _ => by simp at hl
  | p :: ps, t :: ts, a, hl, h, hf => by
    simp only [fitLs] at h
    cases e1 : fitL p t with
    | none => rw [e1] at h; cases h
    | some x =>
      cases e2 : fitLs ps ts with
      | none => rw [e1, e2] at h; cases h
      | some y =>
        rw [e1, e2] at h
        cases h
        simp only [puts]
        rw [fit_put fs p t x e1 fun q hq => hf q (by simp [hq]), fits_put fs ps ts y (by simpa using hl) e2 fun q hq => hf q (by simp [hq])]
end
theorem lkp_nodup : ∀ (a : List (Str × Say)), (a.map (·.1)).Nodup → ∀ q ∈ a, lkp a q.1 = some q.2
  | [], _, q, h => by cases h
  | x :: a, hn, q, h => by
    simp only [List.map_cons, List.nodup_cons] at hn
    simp only [lkp]
    rcases List.mem_cons.mp h with rfl | h
    · rw [if_pos rfl]
    · have : x.1 ≠ q.1 := fun e => hn.1 (by rw [e]; exact List.mem_map.mpr ⟨q, h, rfl⟩)
      rw [if_neg this]
      exact lkp_nodup a hn.2 q h
def lkD (fs : List (Str × Say)) (x : Str) : Str × Say := (x, (lkp fs x).getD (.name x))
mutual
theorem put_fit (fs : List (Str × Say)) : ∀ p : Say, p.pat = true → fitL p (p.put fs) = some (p.nm.map (lkD fs))
  | .name x, _ => by simp [Say.put, fitL, Say.nm, lkD]
  | .made g ps, hp => by
    simp only [Say.pat] at hp
    simp only [Say.put, fitL, Say.nm]
    rw [if_pos ⟨trivial, puts_length fs ps⟩]
    exact puts_fit fs ps hp
  | .skip, hp => by simp [Say.pat] at hp
  | .call _ _, hp => by simp [Say.pat] at hp
  | .either _ _, hp => by simp [Say.pat] at hp
  | .same _ _, hp => by simp [Say.pat] at hp
theorem puts_fit (fs : List (Str × Say)) : ∀ ps : List Say, pats ps = true → fitLs ps (puts fs ps) = some ((nmL ps).map (lkD fs))
  | [], _ => by simp [puts, fitLs, nmL]
  | p :: ps, hp => by
    simp only [pats, Bool.and_eq_true] at hp
    simp only [puts, fitLs, nmL]
    rw [put_fit fs p hp.1, puts_fit fs ps hp.2]
    simp
end
theorem lkD_self {fs : List (Str × Say)} (hn : (fs.map (·.1)).Nodup) : (fs.map (·.1)).map (lkD fs) = fs := by
  have key : ∀ l : List (Str × Say), (∀ q ∈ l, lkp fs q.1 = some q.2) → (l.map (·.1)).map (lkD fs) = l := by
    intro l
    induction l with
    | nil => intro _; rfl
    | cons q l ih =>
      intro h
      have h1 := h q (by simp)
      rw [List.map_cons, List.map_cons, ih fun y hy => h y (List.mem_cons_of_mem _ hy)]
      simp [lkD, h1]
  exact key fs (lkp_nodup fs hn)
/-! ### paths -/
def subAt : List Nat → Say → Option Say
  | [], s => some s
  | i :: q, s => match s.parts[i]? with
    | some t => subAt q t
    | none => none
def lkN : List (List Nat × Say) → List Nat → Option Say
  | [], _ => none
  | q :: r, x => if q.1 = x then some q.2 else lkN r x
theorem lkN_append (x : List Nat) : ∀ a b : List (List Nat × Say), lkN (a ++ b) x = (match lkN a x with | some s => some s | none => lkN b x)
  | [], b => rfl
  | q :: a, b => by
    simp only [List.cons_append, lkN]
    by_cases e : q.1 = x
    · rw [if_pos e, if_pos e]
    · rw [if_neg e, if_neg e]
      exact lkN_append x a b
theorem lkN_none {x : List Nat} : ∀ {a : List (List Nat × Say)}, (∀ q ∈ a, q.1 ≠ x) → lkN a x = none
  | [], _ => rfl
  | q :: a, h => by
    simp only [lkN]
    rw [if_neg (h q (by simp))]
    exact lkN_none fun y hy => h y (List.mem_cons_of_mem _ hy)
mutual
theorem nds_pre : ∀ (s : Say) (pre : List Nat), ∀ q ∈ s.nds pre, ∃ r, q.1 = pre ++ r
  | .name x, pre, q, h => by simp [Say.nds] at h; exact ⟨[], by simp [h]⟩
  | .skip, pre, q, h => by simp [Say.nds] at h; exact ⟨[], by simp [h]⟩
  | .made g ps, pre, q, h => by
    simp only [Say.nds, List.mem_cons] at h
    rcases h with rfl | h
    · exact ⟨[], by simp⟩
    · obtain ⟨j, r, e, _⟩ := ndsL_pre ps pre 0 q h
      exact ⟨j :: r, e⟩
  | .call g ps, pre, q, h => by
    simp only [Say.nds, List.mem_cons] at h
    rcases h with rfl | h
    · exact ⟨[], by simp⟩
    · obtain ⟨j, r, e, _⟩ := ndsL_pre ps pre 0 q h
      exact ⟨j :: r, e⟩
  | .either a b, pre, q, h => by
    simp only [Say.nds, List.mem_cons, List.mem_append] at h
    rcases h with rfl | h | h
    · exact ⟨[], by simp⟩
    · obtain ⟨r, e⟩ := nds_pre a _ q h
      exact ⟨0 :: r, by simp [e]⟩
    · obtain ⟨r, e⟩ := nds_pre b _ q h
      exact ⟨1 :: r, by simp [e]⟩
  | .same a b, pre, q, h => by
    simp only [Say.nds, List.mem_cons, List.mem_append] at h
    rcases h with rfl | h | h
    · exact ⟨[], by simp⟩
    · obtain ⟨r, e⟩ := nds_pre a _ q h
      exact ⟨0 :: r, by simp [e]⟩
    · obtain ⟨r, e⟩ := nds_pre b _ q h
      exact ⟨1 :: r, by simp [e]⟩
theorem ndsL_pre : ∀ (ps : List Say) (pre : List Nat) (i : Nat), ∀ q ∈ ndsL pre i ps, ∃ j r, q.1 = pre ++ j :: r ∧ i ≤ j
  | [], pre, i, q, h => by simp [ndsL] at h
  | s :: ps, pre, i, q, h => by
    simp only [ndsL, List.mem_append] at h
    rcases h with h | h
    · obtain ⟨r, e⟩ := nds_pre s _ q h
      exact ⟨i, r, by simp [e], Nat.le_refl _⟩
    · obtain ⟨j, r, e, hj⟩ := ndsL_pre ps pre (i + 1) q h
      exact ⟨j, r, e, by omega⟩
end
theorem lk_both (n : Nat) : ∀ t : Say, t.deep ≤ n → ∀ (pre q : List Nat), lkN (t.nds pre) (pre ++ q) = subAt q t := by
  induction n with
  | zero =>
    intro t h
    have := deep_pos t
    omega
  | succ n ih =>
    have L : ∀ (ts : List Say), deeps ts ≤ n → ∀ (pre : List Nat) (i j : Nat) (q : List Nat), lkN (ndsL pre i ts) (pre ++ j :: q) = if i ≤ j then (match ts[j - i]? with | some t => subAt q t | none => none) else none := by
      intro ts
      induction ts with
      | nil => intro _ pre i j q; simp [ndsL, lkN]
      | cons t ts iht =>
        intro hd pre i j q
        rw [deeps_cons] at hd
        simp only [ndsL]
        rw [lkN_append, iht (by omega) pre (i + 1) j q]
        by_cases e : j = i
        · subst e
          have := ih t (by omega) (pre ++ [j]) q
          simp only [List.append_assoc, List.cons_append, List.nil_append] at this
          rw [this]
          rw [if_neg (by omega), if_pos (Nat.le_refl _)]
          simp
          cases subAt q t <;> rfl
        · have hn : lkN (t.nds (pre ++ [i])) (pre ++ j :: q) = none := lkN_none fun y hy => by
            obtain ⟨r, er⟩ := nds_pre t _ y hy
            rw [er]
            intro z
            simp at z
            exact e z.1.symm
          rw [hn]
          by_cases c : i ≤ j
          · rw [if_pos (by omega), if_pos c]
            have : j - i = (j - (i + 1)) + 1 := by omega
            rw [this, List.getElem?_cons_succ]
          · rw [if_neg (by omega), if_neg c]
    intro t hd pre q
    rw [nds_eq]
    have hdp := deep_parts t
    cases q with
    | nil => simp [lkN, subAt]
    | cons j q =>
      have hne : ¬ pre = pre ++ j :: q := fun z => by simp at z
      simp only [lkN]
      rw [if_neg hne, L t.parts (by omega) pre 0 j q]
      simp [subAt]
theorem lk_nds (t : Say) (q : List Nat) : lkN (t.nds []) q = subAt q t := by
  have := lk_both t.deep t (Nat.le_refl _) [] q
  simpa using this
/-! paths are unlike -/
theorem nodup_app {α : Type} {a b : List α} (h1 : a.Nodup) (h2 : b.Nodup) (h3 : ∀ x ∈ a, ∀ y ∈ b, x ≠ y) : (a ++ b).Nodup := List.nodup_append.mpr ⟨h1, h2, h3⟩
theorem nds_nodup (n : Nat) : ∀ t : Say, t.deep ≤ n → ∀ pre : List Nat, ((t.nds pre).map (·.1)).Nodup := by
  induction n with
  | zero =>
    intro t h
    have := deep_pos t
    omega
  | succ n ih =>
    have L : ∀ (ts : List Say), deeps ts ≤ n → ∀ (pre : List Nat) (i : Nat), ((ndsL pre i ts).map (·.1)).Nodup := by
      intro ts
      induction ts with
      | nil => intro _ pre i; simp [ndsL]
      | cons t ts iht =>
        intro hd pre i
        rw [deeps_cons] at hd
        simp only [ndsL, List.map_append]
        refine nodup_app (ih t (by omega) _) (iht (by omega) pre (i + 1)) fun x hx y hy e => ?_
        obtain ⟨q, hq, rfl⟩ := List.mem_map.mp hx
        obtain ⟨q2, hq2, rfl⟩ := List.mem_map.mp hy
        obtain ⟨r, er⟩ := nds_pre t _ q hq
        obtain ⟨j, r2, er2, hj⟩ := ndsL_pre ts pre (i + 1) q2 hq2
        rw [er, er2] at e
        simp at e
        omega
    intro t hd pre
    rw [nds_eq]
    have hdp := deep_parts t
    simp only [List.map_cons, List.nodup_cons]
    refine ⟨fun h => ?_, L t.parts (by omega) pre 0⟩
    obtain ⟨q, hq, e⟩ := List.mem_map.mp h
    obtain ⟨j, r, er, _⟩ := ndsL_pre t.parts pre 0 q hq
    rw [er] at e
    simp at e
def pathK (p : List Nat) : List Key := p.map fun (i : Nat) => .inl (i : Int)
theorem pathK_inj : ∀ {p q : List Nat}, pathK p = pathK q → p = q
  | [], [], _ => rfl
  | [], _ :: _, h => by simp [pathK] at h
  | _ :: _, [], h => by simp [pathK] at h
  | a :: p, b :: q, h => by
    simp only [pathK, List.map_cons, List.cons.injEq, Sum.inl.injEq] at h
    have h1 : a = b := by omega
    rw [h1, pathK_inj (p := p) (q := q) h.2]
theorem keysOf_path : ∀ p : List Nat, keysOf (pathD p) = some (pathK p)
  | [] => rfl
  | a :: p => by
    show (match keyOf (.int (a : Int)), keysOf (pathD p) with | some k, some ks => some (k :: ks) | _, _ => none) = _
    rw [keysOf_path p]
    rfl
theorem pairsT_nds : ∀ l : List (List Nat × Say), pairsT (l.map pairD) = some (l.map fun q => pathK q.1, l.map fun q => q.2.d)
  | [] => rfl
  | q :: l => by
    simp only [List.map_cons, pairD, pairsT]
    rw [keysOf_path, pairsT_nds l]
theorem valT_lk (x : List Nat) : ∀ l : List (List Nat × Say), valT (l.map fun q => pathK q.1) (l.map fun q => q.2.d) (pathK x) = (lkN l x).map Say.d
  | [] => rfl
  | q :: l => by
    simp only [List.map_cons, valT, lkN]
    by_cases e : q.1 = x
    · rw [if_pos (by rw [e]), if_pos e]; rfl
    · rw [if_neg (fun z => e (pathK_inj z)), if_neg e]
      exact valT_lk x l
theorem map_nodup {α β : Type} (f : α → β) (hf : ∀ a b, f a = f b → a = b) : ∀ {l : List α}, l.Nodup → (l.map f).Nodup
  | [], _ => by simp
  | a :: l, h => by
    simp only [List.nodup_cons] at h
    simp only [List.map_cons, List.nodup_cons, List.mem_map]
    exact ⟨fun ⟨b, hb, e⟩ => h.1 (by rw [← hf b a e]; exact hb), map_nodup f hf h.2⟩
/-! ### parted -/
/-- a made that the thing hasn't there -/
def badAt : Option Say → Str → Nat → Bool
  | some (.made g ts), h, k => !(decide (g = h) && decide (ts.length = k))
  | _, _, _ => true
def badN (T : List Nat → Option Say) (q : List Nat × Say) : Bool := match q.2 with
  | .made h ps => badAt (T q.1) h ps.length
  | _ => false
theorem parted_iff (n : Nat) : ∀ p : Say, p.deep ≤ n → p.pat = true → ∀ (T : List Nat → Option Say) (pre : List Nat) (t : Say), (∀ q, T (pre ++ q) = subAt q t) → (p.nds pre).any (badN T) = (fitL p t).isNone := by
  induction n with
  | zero =>
    intro p h
    have := deep_pos p
    omega
  | succ n ih =>
    have L : ∀ (ps : List Say), deeps ps ≤ n → pats ps = true → ∀ (ts : List Say), ts.length = ps.length → ∀ (T : List Nat → Option Say) (pre : List Nat) (i : Nat), (∀ (j : Nat) (q : List Nat), T (pre ++ (i + j) :: q) = (match ts[j]? with | some t => subAt q t | none => none)) → (ndsL pre i ps).any (badN T) = (fitLs ps ts).isNone := by
      intro ps
      induction ps with
      | nil => intro _ _ ts _ T pre i _; simp [ndsL, fitLs]
      | cons p ps ihp =>
        intro hd hp ts hl T pre i hT
        rw [deeps_cons] at hd
        simp only [pats, Bool.and_eq_true] at hp
        cases ts with
        | nil => simp at hl
        | cons t ts =>
          simp only [ndsL, List.any_append, fitLs]
          rw [ih p (by omega) hp.1 T (pre ++ [i]) t (fun q => by
            have := hT 0 q
            simp only [Nat.add_zero, List.getElem?_cons_zero] at this
            simp only [List.append_assoc, List.cons_append, List.nil_append]
            exact this)]
          rw [ihp (by omega) hp.2 ts (by simpa using hl) T pre (i + 1) (fun j q => by
            have := hT (j + 1) q
            rw [List.getElem?_cons_succ] at this
            rw [show i + 1 + j = i + (j + 1) by omega]
            exact this)]
          cases fitL p t <;> cases fitLs ps ts <;> rfl
    intro p hd hp T pre t hT
    cases p with
    | name x => simp [Say.nds, badN, fitL]
    | made h ps =>
      simp only [Say.deep] at hd
      simp only [Say.pat] at hp
      have h0 := hT []
      rw [List.append_nil] at h0
      simp only [subAt] at h0
      simp only [Say.nds, List.any_cons]
      have hb : badN T (pre, .made h ps) = badAt (some t) h ps.length := by simp only [badN, h0]
      rw [hb]
      cases t with
      | made g ts =>
        simp only [badAt, fitL]
        by_cases c : g = h ∧ ts.length = ps.length
        · rw [if_pos c, L ps (by omega) hp ts c.2 T pre 0 (fun j q => by
            rw [Nat.zero_add, hT (j :: q)]
            rfl)]
          simp [c.1, c.2]
        · rw [if_neg c]
          simp only [not_and] at c
          by_cases e : g = h
          · simp [e, c e]
          · simp [e]
      | name x => simp [badAt, fitL]
      | skip => simp [badAt, fitL]
      | call x qs => simp [badAt, fitL]
      | either a b => simp [badAt, fitL]
      | same a b => simp [badAt, fitL]
    | skip => simp [Say.pat] at hp
    | call x qs => simp [Say.pat] at hp
    | either a b => simp [Say.pat] at hp
    | same a b => simp [Say.pat] at hp
def parted (p t : Say) : Bool := (p.nds []).any (badN (lkN (t.nds [])))
theorem parted_fit {p t : Say} (hp : p.pat = true) : parted p t = (fitL p t).isNone := parted_iff p.deep p (Nat.le_refl _) hp _ [] t fun q => by rw [List.nil_append]; exact lk_nds t q
/-! ### patterns whose names are all unlike: the names told -/
def al : List Nat := [97, 98, 99, 100, 101, 102, 103, 104, 105, 106, 107, 108, 109, 110, 111, 112, 113, 114, 115, 116, 117, 118, 119, 120, 121, 122]
theorem al_val : ∀ m : Fin 26, al.getD m.val 97 = 97 + m.val := by decide
def nmAt (i : Nat) : Str := repS (1 + i / 26) ⟨#[97 + 7 * i % 26]⟩
theorem rep_list (c : Nat) : ∀ n : Nat, (repS n ⟨#[c]⟩).cps.toList = List.replicate n c := by
  have f : ∀ (n : Nat) (a : Array Nat), ((List.replicate n #[c]).foldl (· ++ ·) a).toList = a.toList ++ List.replicate n c := by
    intro n
    induction n with
    | zero => intro a; simp
    | succ n ih =>
      intro a
      rw [List.replicate_succ, List.foldl_cons, ih]
      simp [List.replicate_succ]
  intro n
  have := f n #[]
  simp only [Array.toList_empty, List.nil_append] at this
  exact this
theorem nm_inj {i j : Nat} (h : nmAt i = nmAt j) : i = j := by
  have h1 := congrArg (fun x : Str => x.cps.toList) h
  simp only [nmAt, rep_list] at h1
  have h2 := congrArg List.length h1
  simp only [List.length_replicate] at h2
  rw [Nat.add_comm 1 (i / 26), Nat.add_comm 1 (j / 26), List.replicate_succ, List.replicate_succ] at h1
  simp only [List.cons.injEq] at h1
  have h3 := h1.1
  omega
theorem nm_okAt (i : Nat) (h : i < 1000) : nmOk (nmAt i) = true := by
  simp only [nmOk, Bool.and_eq_true, decide_eq_true_eq]
  refine ⟨strOk_rep (by simp [strOk]; omega) _, ?_⟩
  show (repS _ _).length ≤ 100
  rw [repS_length, one_len]
  omega
def nmFrom (i k : Nat) : List Str := (List.range' i k).map nmAt
theorem nmFrom_nodup (i k : Nat) : (nmFrom i k).Nodup := map_nodup nmAt (fun _ _ h => nm_inj h) List.nodup_range'
theorem nmFrom_add (i a b : Nat) : nmFrom i a ++ nmFrom (i + a) b = nmFrom i (a + b) := by
  unfold nmFrom
  rw [← List.map_append]
  congr 1
  have := List.range'_append (s := i) (m := a) (n := b) (step := 1)
  simpa using this
def sp_unlike (n : Nat) : Spec := ⟨fun ds M => ∃ (p : Say) (l : Addr) (xs : List D), ds = [p.d, .ref l] ∧ M l = some (.lst xs) ∧ p.pat = true ∧ p.ok = true ∧ p.deep ≤ n ∧ xs.length + p.size ≤ 900,
  fun ds M d M' => ∀ (p : Say) (l : Addr) (xs : List D), ds = [p.d, .ref l] → M l = some (.lst xs) → ∃ (p' : Say) (k : Nat), d = p'.d ∧ p'.pat = true ∧ p'.ok = true ∧ p'.deep ≤ p.deep ∧ k ≤ p.size ∧ p'.nm = nmFrom xs.length k ∧ M' = mset M l (.lst (xs ++ (nmFrom xs.length k).map D.str))⟩
theorem call_unlike {n : Nat} {p : Say} {l : Addr} {xs : List D} {M : Mem} {Q : DK} (h : M l = some (.lst xs)) (h1 : p.pat = true) (h2 : p.ok = true) (h4 : p.deep ≤ n) (h5 : xs.length + p.size ≤ 900)
    (q : ∀ (p' : Say) (k : Nat), p'.pat = true → p'.ok = true → p'.deep ≤ p.deep → k ≤ p.size → p'.nm = nmFrom xs.length k → Q p'.d (mset M l (.lst (xs ++ (nmFrom xs.length k).map D.str)))) :
    (sp_unlike n).pre [p.d, .ref l] M ∧ ∀ d M', (sp_unlike n).post [p.d, .ref l] M d M' → Q d M' := by
  refine ⟨⟨p, l, xs, rfl, h, h1, h2, h4, h5⟩, fun d M' z => ?_⟩
  obtain ⟨p', k, rfl, y1, y2, y3, y4, y5, rfl⟩ := z p l xs rfl h
  exact q p' k y1 y2 y3 y4 y5
theorem unlike_none (ds : List D) (M : Mem) : ¬ (sp_unlike 0).pre ds M := by
  rintro ⟨p, l, xs, _, _, _, _, h, _⟩
  have := deep_pos p
  omega
theorem pats_snoc : ∀ (l : List Say) (s : Say), pats l = true → s.pat = true → pats (l ++ [s]) = true
  | [], s, _, h => by simp [pats, h]
  | a :: r, s, h, hs => by
    simp only [List.cons_append, pats, Bool.and_eq_true] at h ⊢
    exact ⟨h.1, pats_snoc r s h.2 hs⟩
theorem nmL_snoc : ∀ (l : List Say) (s : Say), nmL (l ++ [s]) = nmL l ++ s.nm
  | [], s => by simp [nmL]
  | a :: r, s => by simp [nmL, nmL_snoc r s]
theorem atI_last (xs : List D) (x : D) : atI (xs ++ [x]) (-1) = some x := by
  unfold atI ixN
  have h : -(((xs ++ [x]).length : Nat) : Int) ≤ -1 := by simp; omega
  rw [if_neg (by omega), if_pos h]
  have e : ((-1 : Int) + (((xs ++ [x]).length : Nat) : Int)).toNat = xs.length := by simp; omega
  rw [e]
  simp
theorem unlike_comp (n m : Nat) (M : Mem) (l : Addr) (Q : DK) (ρ : Env) (xs0 : List D) (r1 : ρ[1]? = some (some (.ref l))) (r2 : 2 < ρ.length) : ∀ (ps ss : List Say) (k0 : Nat), pats ps = true → oks ps = true → deeps ps ≤ n → deeps ps ≤ m → xs0.length + k0 + sizes ps ≤ 900 → pats ss = true → oks ss = true → deeps ss ≤ m → nmL ss = nmFrom xs0.length k0 →
    (∀ (ts : List Say) (k : Nat), ts.length = ss.length + ps.length → pats ts = true → oks ts = true → deeps ts ≤ m → k ≤ k0 + sizes ps → nmL ts = nmFrom xs0.length k → Q (.lst (says ts)) (mset M l (.lst (xs0 ++ (nmFrom xs0.length k).map D.str)))) →
    dCompL (gName 2) dYes (dCall (sp_unlike n) (dA (dV 2) (dA (dV 1) dA0))) ρ (says ps) (says ss) (mset M l (.lst (xs0 ++ (nmFrom xs0.length k0).map D.str))) Q := by
  intro ps
  induction ps with
  | nil =>
    intro ss k0 _ _ _ _ _ s1 s2 s3 s4 q
    have := q ss k0 (by simp) s1 s2 s3 (by simp) s4
    simpa [says] using this
  | cons p ps ih =>
    intro ss k0 h1 h2 h3 h3' h4 s1 s2 s3 s4 q
    simp only [pats, Bool.and_eq_true] at h1
    simp only [oks, Bool.and_eq_true] at h2
    rw [deeps_cons] at h3 h3'
    simp only [sizes] at h4 q
    have g1 : (ρ.set 2 (some p.d))[1]? = some (some (.ref l)) := by rw [List.getElem?_set_ne (by decide)]; exact r1
    have g2 : (ρ.set 2 (some p.d))[2]? = some (some p.d) := by rw [List.getElem?_set_self r2]
    have hlen : (xs0 ++ (nmFrom xs0.length k0).map D.str).length = xs0.length + k0 := by simp [nmFrom]
    simp only [says, dCompL, gName, dYes, if_true, dCall, dA, dV, dA0, g1, g2]
    refine call_unlike (xs := xs0 ++ (nmFrom xs0.length k0).map D.str) (mset_same _ _ _) h1.1 h2.1 (by omega) (by rw [hlen]; omega) ?_
    intro p' k y1 y2 y3 y4 y5
    rw [hlen] at y5 ⊢
    rw [mset_mset]
    have e : says ss ++ [p'.d] = says (ss ++ [p']) := by rw [says_append]; rfl
    have e2 : xs0 ++ (nmFrom xs0.length k0).map D.str ++ (nmFrom (xs0.length + k0) k).map D.str = xs0 ++ (nmFrom xs0.length (k0 + k)).map D.str := by
      rw [List.append_assoc, ← List.map_append, nmFrom_add]
    rw [e, e2]
    refine ih (ss ++ [p']) (k0 + k) h1.2 h2.2 (by omega) (by omega) (by omega) (pats_snoc _ _ s1 y1) (oks_snoc _ _ s2 y2) (deeps_snoc _ _ _ s3 (by omega)) (by rw [nmL_snoc, s4, y5, nmFrom_add]) ?_
    intro ts z t1 t2 t3 t4 t5 t6
    exact q ts z (by rw [t1]; simp; omega) t2 t3 t4 (by omega) t6
theorem does_unlike (n : Nat) : Does 3 (t__law_unlike (sp_unlike n)) 2 (sp_unlike (n + 1)) := by
  rintro ds M hl ⟨p, l, xs, rfl, hM, h1, h2, h4, h5⟩
  have fin : ∀ (p' : Say) (k : Nat), p'.pat = true → p'.ok = true → p'.deep ≤ p.deep → k ≤ p.size → p'.nm = nmFrom xs.length k → Ret (sp_unlike (n + 1)) [p.d, .ref l] M p'.d (mset M l (.lst (xs ++ (nmFrom xs.length k).map D.str))) := fun p' k y1 y2 y3 y4 y5 => by
    refine Ret.now fun p2 l2 xs2 e hM2 => ?_
    simp only [List.cons.injEq, D.ref.injEq, and_true] at e
    obtain ⟨e1, rfl⟩ := e
    have e1 := Say.d_inj e1
    subst e1
    rw [hM] at hM2
    cases hM2
    exact ⟨p', k, rfl, y1, y2, y3, y4, y5, rfl⟩
  cases p with
  | name x =>
    simp only [Say.size] at h5
    have hc : atI (Str.ofString "abcdefghijklmnopqrstuvwxyz").cps.toList ((xs.length : Int) * 7 % 26) = some (97 + 7 * xs.length % 26) := by
      rw [alpha_cps]
      have e : ((xs.length : Int) * 7 % 26) = ((7 * xs.length % 26 : Nat) : Int) := by omega
      rw [e]
      have hlt : 7 * xs.length % 26 < al.length := by
        show _ < 26
        exact Nat.mod_lt _ (by decide)
      have := atI_nat' (xs := al) hlt
      rw [show al[7 * xs.length % 26] = 97 + 7 * xs.length % 26 by
        have z := al_val ⟨7 * xs.length % 26, hlt⟩
        simp only [List.getD] at z
        rw [List.getElem?_eq_getElem hlt] at z
        simpa using z] at this
      exact this
    have enm : repS (1 + (xs.length : Int) / 26).toNat ⟨#[97 + 7 * xs.length % 26]⟩ = nmAt xs.length := by
      unfold nmAt
      rw [show (1 + (xs.length : Int) / 26).toNat = 1 + xs.length / 26 by omega]
    have f := fin (.name (nmAt xs.length)) 1 rfl (nm_okAt _ (by omega)) (Nat.le_refl _) (by simp [Say.size]) (by simp [Say.nm, nmFrom])
    have hal : (Str.ofString "abcdefghijklmnopqrstuvwxyz").length ≤ 100000 := by rw [alpha_len]; decide
    simp [nmFrom, Say.d] at f
    simp [t__law_unlike, Say.d, atI3_0, atI2_0, cmp_str, strOk_of, ofString_inj, hM, hc, hal, small, one_len, atI_last, enm]
    refine ⟨by omega, by omega, f⟩
  | made x ps =>
    have hp3 := parts3 h2
    have op := oks_parts h2
    have ox : nmOk x = true := by simp only [Say.ok, Bool.and_eq_true] at h2; exact h2.1.1
    simp only [Say.parts] at hp3 op
    simp only [Say.pat] at h1
    simp only [Say.deep] at h4
    simp only [Say.size] at h5
    have hl1 := says_length ps
    have z := unlike_comp n (deeps ps) M l (fun d M' => oTuple d M' fun y M2 => Ret (sp_unlike (n + 1)) [(Say.made x ps).d, .ref l] M (.tup [.str "made", .str x, y]) M2) [some (Say.made x ps).d, some (.ref l), none] xs rfl (by simp) ps [] 0 h1 op (by omega) (Nat.le_refl _) (by omega) rfl rfl (by simp [deeps]) (by simp [nmL, nmFrom]) (fun ts k t1 t2 t3 t4 t5 t6 => by
      have f := fin (.made x ts) k t2 (by simp only [Say.ok, ox, t3, Bool.and_true, Bool.true_and, decide_eq_true_eq]; rw [t1]; simp; omega) (by simp only [Say.deep]; omega) (by simp only [Say.size]; omega) (by simpa [Say.nm] using t6)
      rw [oTuple_lst]
      exact f)
    have e0 : xs ++ (nmFrom xs.length 0).map D.str = xs := by simp [nmFrom]
    rw [e0, mset_self hM] at z
    simp [t__law_unlike, Say.d, atI3_0, atI3_1, atI3_2, cmp_str, strOk_of, ofString_inj]
    exact ⟨by omega, z⟩
  | _ => simp [Say.pat] at h1
/-! ### parted, as it is asked -/
def Say.headW : Say → String
  | .name _ => "name"
  | .skip => "skip"
  | .made _ _ => "made"
  | .call _ _ => "call"
  | .either _ _ => "either"
  | .same _ _ => "same"
theorem ix0 (s : Say) {M : Mem} {Q : DK} : oIx s.d (.int 0) M Q = Q (.str (Str.ofString s.headW)) M := by cases s <;> rfl
abbrev pbody5 : DS := (sIf (dTest (dOp oEq (dOp oIx (dV 4) (dC (.int 0))) (dC (.str "made")))) (sSeq (sAsg (dGetT (dV 2) (dV 3) (dTup (dA (dC (.str "none")) dA0))) (gName 5))
  (sIf (dOr (dTest (dOp oNe (dOp oIx (dV 5) (dC (.int 0))) (dC (.str "made")))) (dOr (dTest (dOp oNe (dOp oIx (dV 5) (dC (.int 1))) (dOp oIx (dV 4) (dC (.int 1))))) (dTest (dOp oNe (dUn oLen (dOp oIx (dV 5) (dC (.int 2)))) (dUn oLen (dOp oIx (dV 4) (dC (.int 2)))))))) (sRet (dC (.bl true))) sNext)) sNext)
def ndT (l : List (List Nat × Say)) : D := .dT (l.map fun q => pathK q.1) (l.map fun q => q.2.d)
theorem part_loop (E : DEnds) (M : Mem) (o0 o1 : Option D) (tn : List (List Nat × Say)) : ∀ (ns : List (List Nat × Say)) (o3 o4 o5 : Option D), (ns.any (badN (lkN tn)) = false → ∀ o3 o4 o5, E.nx [o0, o1, some (ndT tn), o3, o4, o5] M) → (ns.any (badN (lkN tn)) = true → E.rt (.bl true) M) →
    sLoop (gTup (gCons (gName 3) (gCons (gName 4) gNil))) pbody5 (ns.map pairD) E [o0, o1, some (ndT tn), o3, o4, o5] M := by
  intro ns
  induction ns with
  | nil => intro o3 o4 o5 q _; exact q rfl o3 o4 o5
  | cons n ns ih =>
    intro o3 o4 o5 hn hr
    obtain ⟨x, s⟩ := n
    have z := fun o5 => ih (some (.tup (pathD x))) (some s.d) o5
    simp only [List.any_cons] at hn hr
    simp only [List.map_cons, sLoop, pairD]
    generalize sLoop (gTup (gCons (gName 3) (gCons (gName 4) gNil))) pbody5 (ns.map pairD) E = N at z ⊢
    simp only [gTup, gCons, gName, gNil, pbody5, sIf, dTest, dOp, dV, dC, List.set, List.getElem?_cons_zero, List.getElem?_cons_succ, ix0, oEq, eqB_str, ofString_inj]
    by_cases hm : s.headW = "made"
    · obtain ⟨h, ps, rfl⟩ : ∃ h ps, s = .made h ps := by cases s <;> first | exact ⟨_, _, rfl⟩ | simp [Say.headW] at hm
      have hb : badN (lkN tn) (x, .made h ps) = badAt (lkN tn x) h ps.length := rfl
      rw [hb] at hn hr
      have hl1 := says_length ps
      simp only [hm, decide_true, if_true, sSeq, sAsg, dGetT, dV, dTup, dA, dA0, dC, ndT, List.getElem?_cons_zero, List.getElem?_cons_succ, keysOf_path, valT_lk, gName, List.set]
      cases e : lkN tn x with
      | none =>
        have f := hr (by rw [e]; simp [badAt])
        simp [atI_zero, ofString_inj]
        exact f
      | some u =>
        rw [e] at hn hr
        simp only [Option.map_some, Option.getD_some]
        cases u with
        | made g ts =>
          have hl2 := says_length ts
          by_cases c1 : g = h
          · by_cases c2 : ts.length = ps.length
            · have zz := z (some (Say.made g ts).d) (fun a => hn (by simp [badAt, c1, c2, a])) (fun a => hr (by simp [a]))
              subst c1
              simp [Say.d, atI3_0, atI3_1, atI3_2, ofString_inj, hl1, hl2, c2] at zz ⊢
              exact zz
            · have f := hr (by simp [badAt, c2])
              subst c1
              have c3 : ¬ ((ts.length : Int) = (ps.length : Int)) := by omega
              simp [Say.d, atI3_0, atI3_1, atI3_2, ofString_inj, hl1, hl2, c2, c3]
              exact f
          · have f := hr (by simp [badAt, c1])
            simp [Say.d, atI3_0, atI3_1, atI3_2, ofString_inj, hl1, hl2, c1]
            exact f
        | name y =>
          have f := hr (by simp [badAt])
          simp [Say.d, atI2_0, ofString_inj]
          exact f
        | skip =>
          have f := hr (by simp [badAt])
          simp [Say.d, atI_zero, ofString_inj]
          exact f
        | call y qs =>
          have f := hr (by simp [badAt])
          simp [Say.d, atI3_0, ofString_inj]
          exact f
        | either a b =>
          have f := hr (by simp [badAt])
          simp [Say.d, atI3_0, ofString_inj]
          exact f
        | same a b =>
          have f := hr (by simp [badAt])
          simp [Say.d, atI3_0, ofString_inj]
          exact f
    · have hb : badN (lkN tn) (x, s) = false := by cases s <;> first | rfl | simp [Say.headW] at hm
      rw [hb] at hn hr
      simp only [hm, decide_false, Bool.false_eq_true, if_false, sNext]
      exact z o5 (fun a => hn (by simp [a])) (fun a => hr (by simp [a]))
def sp_parted : Spec := ⟨fun ds _ => ∃ p t : Say, ds = [p.d, t.d] ∧ Fit p ∧ Fit t, fun ds M d M' => M' = M ∧ ∀ p t : Say, ds = [p.d, t.d] → d = .bl (parted p t)⟩
theorem call_parted {p t : Say} {M : Mem} {Q : DK} (h1 : Fit p) (h2 : Fit t) (q : Q (.bl (parted p t)) M) : sp_parted.pre [p.d, t.d] M ∧ ∀ d M', sp_parted.post [p.d, t.d] M d M' → Q d M' := by
  refine ⟨⟨p, t, rfl, h1, h2⟩, fun d M' z => ?_⟩
  obtain ⟨rfl, z⟩ := z
  rw [z p t rfl]
  exact q
theorem t_parted_eq : t__law_parted sp_nodes = (sSeq (sAsg (dUn oDictP (dCall sp_nodes (dA (dV 1) dA0))) (gName 2))
  (sSeq (sFor (iSeqP (dCall sp_nodes (dA (dV 0) dA0))) (gTup (gCons (gName 3) (gCons (gName 4) gNil))) pbody5)
  (sRet (dC (.bl false))))) := rfl
theorem does_parted : Does 6 (t__law_parted sp_nodes) 2 sp_parted := by
  rintro ds M hl ⟨p, t, rfl, h1, h2⟩
  have fin : ∀ b, b = parted p t → Ret sp_parted [p.d, t.d] M (.bl b) M := fun b hb => Ret.now ⟨rfl, fun p' t' e => by
    obtain ⟨rfl, rfl⟩ := two_inj e
    rw [hb]⟩
  rw [t_parted_eq]
  generalize hbb : pbody5 = bb
  simp only [sSeq, sAsg, dUn, dCall, dA, dA0, dV, start, List.map, List.length, List.replicate, List.cons_append, List.nil_append, List.getElem?_cons_zero, List.getElem?_cons_succ]
  refine call_nodes h2 fun c hc => ?_
  have hnd : ((t.nds []).map fun q => pathK q.1).Nodup := by
    have z := nds_nodup t.deep t (Nat.le_refl _) []
    have := map_nodup pathK (fun a b h => pathK_inj h) z
    rw [List.map_map] at this
    exact this
  simp only [oDictP, mset_same, pairsT_nds]
  refine ⟨⟨hnd, by rw [List.length_map, nds_length]; have := h2.2.2; omega⟩, ?_⟩
  rw [mdel_mset hc]
  simp only [gName, List.set, sFor, iSeqP, dCall, dA, dA0, dV, List.getElem?_cons_zero, List.getElem?_cons_succ]
  refine call_nodes h1 fun c2 hc2 => ?_
  simp only [mset_same]
  rw [mdel_mset hc2, ← hbb]
  refine part_loop _ M _ _ (t.nds []) (p.nds []) none none none (fun a o3 o4 o5 => fin false ?_) (fun a => fin true ?_)
  · exact a.symm
  · exact a.symm
/-! ### what is right -/
theorem selfs_str : ∀ l : List Str, selfOks (l.map D.str) = true ∧ depths (l.map D.str) ≤ 1
  | [] => by simp [selfOks, depths]
  | x :: l => by
    have h := selfs_str l
    simp only [List.map_cons, selfOks, selfOk, h.1, depths, depth, Bool.and_self, true_and]
    omega
theorem names_comp (M : Mem) (Q : DK) (ρ : Env) (r4 : 4 < ρ.length) : ∀ (a : List (Str × Say)) (acc : List Str), Q (.lst ((acc ++ a.map (·.1)).map D.str)) M →
    dCompL (gTup (gCons (gName 3) (gCons (gName 4) gNil))) dYes (dV 3) ρ (a.map fpD) (acc.map D.str) M Q := by
  intro a
  induction a with
  | nil => intro acc q; simpa using q
  | cons x a ih =>
    intro acc q
    have g3 : ((ρ.set 3 (some (.str x.1))).set 4 (some x.2.d))[3]? = some (some (.str x.1)) := by
      rw [List.getElem?_set_ne (by decide), List.getElem?_set_self (by omega)]
    simp only [List.map_cons, fpD, dCompL, gTup, gCons, gName, gNil, dYes, if_true, dV, g3]
    have ea : acc.map D.str ++ [D.str x.1] = (acc ++ [x.1]).map D.str := by simp
    rw [ea]
    refine ih (acc ++ [x.1]) ?_
    simpa [List.append_assoc] using q
def Rt (p t : Say) : Prop := p.pat = true ∧ p.nm.Nodup ∧ Fit p ∧ Fit t ∧ p.deep ≤ 4 ∧ p.size ≤ 900
def sp_right : Spec := ⟨fun ds _ => ∃ p t : Say, ds = [p.d, t.d] ∧ Rt p t, fun _ M d M' => d = .bl true ∧ M' = M⟩
theorem call_right {p t : Say} {M : Mem} {Q : DK} (h : Rt p t) (q : Q (.bl true) M) : sp_right.pre [p.d, t.d] M ∧ ∀ d M', sp_right.post [p.d, t.d] M d M' → Q d M' := by
  refine ⟨⟨p, t, rfl, h⟩, fun d M' z => ?_⟩
  obtain ⟨rfl, rfl⟩ := z
  exact q
theorem does_right : Does 5 (t__law_right sp_parted (sp_same 30) (sp_filled 4) sp_names (sp_fitted 4)) 2 sp_right := by
  rintro ds M hl ⟨p, t, rfl, hp, hn, fp, ft, hd, hz⟩
  have fin : Ret sp_right [p.d, t.d] M (.bl true) M := Ret.now ⟨rfl, rfl⟩
  simp only [t__law_right, sSeq, sAsg, sIf, sRet, sNext, dNot, dTest, dUn, dCall, dA, dA0, dV, gName, start, List.map, List.length, List.replicate, List.cons_append, List.nil_append, List.getElem?_cons_zero, List.getElem?_cons_succ, List.set]
  refine call_fitted hp fp.1 ft.1 hd (by omega) ?_
  have hpf := parted_fit (p := p) (t := t) hp
  cases e : fitL p t with
  | none =>
    rw [e] at hpf
    simp only [fitD, oIsN_non, if_true]
    refine call_parted fp ft ?_
    rw [hpf]
    exact fin
  | some a =>
    rw [e] at hpf
    have hnm := fit_nm p t a e
    have hal := fitL_len p t a e
    have nn : namesL (p.nds []) [] = p.nm := by
      have := names_nm p [] [] hp (by simpa using hn)
      simpa using this
    have hput := fit_put a p t a e (lkp_nodup a (by rw [hnm]; exact hn))
    simp only [fitD, oIsN_tup, Bool.false_eq_true, if_false, oIsi, tyOf_tup]
    refine ⟨by decide, ?_⟩
    simp only [beq_self_eq_true, Bool.true_or, Bool.not_true, Bool.false_eq_true, if_false, dComp, iSeq, dV, List.getElem?_cons_zero, List.getElem?_cons_succ]
    refine ⟨by rw [List.length_map]; omega, ?_⟩
    refine names_comp _ _ _ (by simp) a [] ?_
    simp only [List.nil_append, oTuple_lst]
    refine call_names fp ?_
    rw [nn, hnm]
    have ss := selfs_str p.nm
    refine call_same (by simp only [selfOk, ss.1, Bool.and_true]; refine decide_eq_true ?_; rw [List.length_map, ← hnm, List.length_map]; omega) (by simp only [depth]; omega) ?_
    simp only [Bool.not_true, Bool.false_eq_true, if_false, dAndV, dNotV, dCall, dA, dA0, dV, List.getElem?_cons_zero, List.getElem?_cons_succ]
    refine call_parted fp ft ?_
    rw [hpf]
    simp only [Option.isNone_some, Bool.not_false, if_true]
    refine call_filled fp.1 hd (by rw [hnm]; exact hn) (by omega) ?_
    rw [hput]
    have hdt := depth_d t
    refine call_same (self_d t ft.1) (by have := ft.2.1; omega) ?_
    exact fin
mutual
theorem by_pat (f : Str → Bool) (h1 : f "call" = false) (h2 : f "either" = false) (h3 : f "same" = false) (h4 : f "skip" = false) : ∀ s : Say, s.by f = true → s.pat = true
  | .name x, _ => rfl
  | .skip, h => by simp [Say.by, h4] at h
  | .made x ps, h => by
    simp only [Say.by, Bool.and_eq_true] at h
    simp only [Say.pat]
    exact bys_pats f h1 h2 h3 h4 ps h.2
  | .call x ps, h => by simp [Say.by, h1] at h
  | .either a b, h => by simp [Say.by, h2] at h
  | .same a b, h => by simp [Say.by, h3] at h
theorem bys_pats (f : Str → Bool) (h1 : f "call" = false) (h2 : f "either" = false) (h3 : f "same" = false) (h4 : f "skip" = false) : ∀ ps : List Say, bys f ps = true → pats ps = true
  | [], _ => rfl
  | s :: r, h => by
    simp only [bys, Bool.and_eq_true] at h
    simp only [pats, Bool.and_eq_true]
    exact ⟨by_pat f h1 h2 h3 h4 s h.1, bys_pats f h1 h2 h3 h4 r h.2⟩
end
/-! ### the law -/
def hsA : List Str := ["made", "name", "made"]
def hsB : List Str := ["name", "made", "skip"]
def hsC : List Str := ["made", "name"]
def hAe : DE := (dLst (dA (dC (.str "made")) (dA (dC (.str "name")) (dA (dC (.str "made")) dA0))))
def hBe : DE := (dLst (dA (dC (.str "name")) (dA (dC (.str "made")) (dA (dC (.str "skip")) dA0))))
def hCe : DE := (dLst (dA (dC (.str "made")) (dA (dC (.str "name")) dA0)))
theorem ev_hA : hAe = fun _ M Q => Q (.lst (hsA.map D.str)) M := rfl
theorem ev_hB : hBe = fun _ M Q => Q (.lst (hsB.map D.str)) M := rfl
theorem ev_hC : hCe = fun _ M Q => Q (.lst (hsC.map D.str)) M := rfl
theorem hsA_six : ∀ h ∈ hsA, h ∈ six := by
  intro h hh
  simp only [hsA, six, List.mem_cons, List.not_mem_nil, or_false] at hh ⊢
  rcases hh with hh | hh | hh <;> simp only [hh, true_or, or_true]
theorem hsB_six : ∀ h ∈ hsB, h ∈ six := by
  intro h hh
  simp only [hsB, six, List.mem_cons, List.not_mem_nil, or_false] at hh ⊢
  rcases hh with hh | hh | hh <;> simp only [hh, true_or, or_true]
theorem hsC_six : ∀ h ∈ hsC, h ∈ six := by
  intro h hh
  simp only [hsC, six, List.mem_cons, List.not_mem_nil, or_false] at hh ⊢
  rcases hh with hh | hh <;> simp only [hh, true_or, or_true]
theorem pat_A {s : Say} (h : s.by (fun h => decide (h ∈ hsA) || decide (h = "made")) = true) : s.pat = true := by
  refine by_pat _ ?_ ?_ ?_ ?_ s h <;> simp [hsA, ofString_inj]
theorem pat_C {s : Say} (h : s.by (fun h => decide (h ∈ hsC) || decide (h = "made")) = true) : s.pat = true := by
  refine by_pat _ ?_ ?_ ?_ ?_ s h <;> simp [hsC, ofString_inj]
theorem Z4 : Z 4 = 40 := rfl
theorem Z6 : Z 6 = 364 := rfl
theorem B4 : B 4 = 1331 := rfl
theorem B3 : B 3 = 440 := rfl
theorem fit_of {s : Say} (o : s.ok = true) (h : s.deep ≤ 6) : Fit s := ⟨o, by omega, by have := size_of o h; rw [Z6] at this; omega⟩
abbrev gbody (top : Int) : DS := (sExpr (dMeth mAppend (dV 5) (dTup (dA (dV 6) (dA (dCall (sp_any 0 4) (dA (dV 1) (dA hBe (dA (dOp oAdd (dC (.int 1)) (dOp oMod (dCall (sp_next 0 top) (dA (dV 1) dA0)) (dC (.int 3)))) dA0)))) dA0)))))
theorem fill_loop (top : Int) (E : DEnds) (M : Mem) (dk f5 : Addr) (h5 : f5 ≠ dk ∧ M f5 = none) (e0 e2 e3 e4 e7 e8 e9 : Option D) : ∀ (xs : List Str) (fs : List (Str × Say)) (M1 : Mem) (b : Nat) (o6 : Option D), KS 0 M M1 dk b → xs.length * 1400 ≤ b → M1 f5 = some (.lst (fs.map fpD)) → fs.length + xs.length ≤ 1000 → (∀ x ∈ xs, strOk x = true) → FitF fs →
    (∀ (M1' : Mem) (gs : List (Str × Say)) (b' : Nat) (o6 : Option D), KS 0 M M1' dk b' → M1' f5 = some (.lst (gs.map fpD)) → gs.map (·.1) = fs.map (·.1) ++ xs → FitF gs → b ≤ b' + xs.length * 1400 → E.nx [e0, some (.ref dk), e2, e3, e4, some (.ref f5), o6, e7, e8, e9] M1') →
    sLoop (gName 6) (gbody top) (xs.map D.str) E [e0, some (.ref dk), e2, e3, e4, some (.ref f5), o6, e7, e8, e9] M1 := by
  intro xs
  induction xs with
  | nil => intro fs M1 b o6 hS _ hl _ _ hf q; exact q M1 fs b o6 hS hl (by simp) hf (by simp)
  | cons x xs ih =>
    intro fs M1 b o6 hS hb hl hlen hx hf q
    rw [List.length_cons, Nat.succ_mul] at hb
    rw [List.length_cons] at hlen
    simp only [List.length_cons, Nat.succ_mul] at q
    simp only [List.map_cons, sLoop]
    generalize sLoop (gName 6) (gbody top) (xs.map D.str) E = N at ih ⊢
    simp only [gbody, gName, List.set, sExpr, dMeth, dTup, dA, dA0, dV, dCall, dOp, dC, ev_hB, List.getElem?_cons_zero, List.getElem?_cons_succ, asL, hl, Option.isSome_some, true_and]
    refine draw hS.deck (by omega) fun r b1 h0 hr hb1 => ?_
    have m3 := mod_pos r (show (0 : Int) < 3 by decide)
    simp only [oMod_int, oAdd_int]
    refine ⟨by decide, ?_⟩
    refine call_any (b := b1) (mset_same _ _ _) (by simp [hsB]) (by simp [hsB]) hsB_six (by omega) (by omega) (by rw [B4]; omega) ?_
    intro s b2 s1 s2 _ s4
    rw [B4] at s4
    rw [mset_mset]
    have hS2 := hS.draw b2
    have hl2 : mset M1 dk (.deck 0 b2) f5 = some (.lst (fs.map fpD)) := by rw [mset_ne h5.1]; exact hl
    simp only [mAppend_ref, hl2]
    refine ⟨by rw [List.length_map]; omega, ?_⟩
    have ea : fs.map fpD ++ [.tup [.str x, s.d]] = (fs ++ [(x, s)]).map fpD := by simp [fpD]
    rw [ea]
    refine ih (fs ++ [(x, s)]) _ b2 _ (hS2.upd h5 _) (by omega) (mset_same _ _ _) (by simp; omega) (fun y hy => hx y (List.mem_cons_of_mem _ hy)) ?_ ?_
    · intro y hy
      rcases List.mem_append.mp hy with h | h
      · exact hf y h
      · rw [List.mem_singleton.mp h]
        exact ⟨hx x (by simp), s1, by show s.deep ≤ 3; omega⟩
    · intro M1' gs b' o6 z1 z2 z3 z4 z5
      exact q M1' gs b' o6 z1 z2 (by rw [z3]; simp) z4 (by omega)
def sp_law : Spec := ⟨fun ds M => ∃ ns : List Int, ds = [.rol (ns.map D.int)] ∧ ns.length ≤ 63 ∧ M = fun _ => none, fun _ _ d _ => d = .bl true⟩
abbrev lend (top : Int) : DS := (sSeq (sAsg (dCall (sp_unlike 4) (dA (dCall (sp_any 0 4) (dA (dV 1) (dA hCe (dA (dOp oAdd (dC (.int 1)) (dOp oMod (dOp oFdiv (dV 3) (dC (.int 16))) (dC (.int 3)))) dA0)))) (dA (dNew dA0) dA0))) (gName 9))
  (sIf (dOr (dNot (dTest (dCall sp_right (dA (dV 9) (dA (dV 7) dA0))))) (dNot (dTest (dCall sp_right (dA (dV 4) (dA (dV 4) dA0)))))) (sRet (dC (.bl false))) sNext))
abbrev lmid (top : Int) (T : DS) : DS := (sSeq (sAsg (dCall (sp_filled 4) (dA (dV 4) (dA (dUn oTuple (dV 5)) dA0))) (gName 7))
  (sSeq (sIf (dNot (dTest (dCall (sp_same 30) (dA (dCall (sp_fitted 4) (dA (dV 4) (dA (dV 7) dA0))) (dA (dUn oTuple (dV 5)) dA0))))) (sRet (dC (.bl false))) sNext)
  (sSeq (sAsg (dCall (sp_any 0 4) (dA (dV 1) (dA hBe (dA (dOp oAdd (dC (.int 1)) (dOp oMod (dOp oFdiv (dV 3) (dC (.int 4))) (dC (.int 4)))) dA0)))) (gName 8))
  (sSeq (sIf (dOr (dNot (dTest (dCall sp_right (dA (dV 4) (dA (dV 7) dA0))))) (dNot (dTest (dCall sp_right (dA (dV 4) (dA (dV 8) dA0)))))) (sRet (dC (.bl false))) sNext) T))))
abbrev lbody (top : Int) : DS := (sSeq (sAsg (dCall (sp_next 0 top) (dA (dV 1) dA0)) (gName 3))
  (sSeq (sAsg (dCall (sp_unlike 4) (dA (dCall (sp_any 0 4) (dA (dV 1) (dA hAe (dA (dOp oAdd (dC (.int 1)) (dOp oMod (dV 3) (dC (.int 4)))) dA0)))) (dA (dNew dA0) dA0))) (gName 4))
  (sSeq (sAsg (dNew dA0) (gName 5))
  (sSeq (sFor (iSeq (dCall sp_names (dA (dV 4) dA0))) (gName 6) (gbody top)) (lmid top (lend top))))))
theorem end_ok (top : Int) (E : DEnds) (M M1 : Mem) (dk : Addr) (b : Nat) (p t : Say) (r : Int) (e0 e2 e5 e6 e8 o9 : Option D) (hS : KS 0 M M1 dk b) (hb : 3000 ≤ b) (hr : 0 ≤ r) (hp : Rt p p) (ht : Fit t)
    (q : ∀ (M1' : Mem) (b' : Nat) (o9 : Option D), KS 0 M M1' dk b' → b ≤ b' + 3000 → E.nx [e0, some (.ref dk), e2, some (.int r), some p.d, e5, e6, some t.d, e8, o9] M1') :
    lend top E [e0, some (.ref dk), e2, some (.int r), some p.d, e5, e6, some t.d, e8, o9] M1 := by
  have m3 := mod_pos (r / 16) (show (0 : Int) < 3 by decide)
  simp only [lend, sSeq, sAsg, dCall, dA, dA0, dV, dOp, dC, ev_hC, dNew, gName, List.set, List.getElem?_cons_zero, List.getElem?_cons_succ, oFdiv_int, oMod_int, oAdd_int]
  refine ⟨⟨by decide, by decide⟩, by decide, ?_⟩
  refine call_any (b := b) hS.deck (by simp [hsC]) (by simp [hsC]) hsC_six (by omega) (by omega) (by rw [B4]; omega) ?_
  intro s b1 s1 s2 s3 s4
  rw [B4] at s4
  have hS1 := hS.draw b1
  intro l hl
  have F := hS1.fresh hl
  have sz := size_of s1 (show s.deep ≤ 4 by omega)
  rw [Z4] at sz
  refine call_unlike (xs := []) (mset_same _ _ _) (pat_C s3) s1 (by omega) (by simp; omega) ?_
  intro p2 k y1 y2 y3 y4 y5
  rw [mset_mset]
  have hS2 := hS1.upd F ([] ++ (nmFrom ([] : List D).length k).map D.str)
  have z2 := size_of y2 (show p2.deep ≤ 4 by omega)
  rw [Z4] at z2
  have R2 : Rt p2 t := ⟨y1, by rw [y5]; exact nmFrom_nodup _ _, fit_of y2 (by omega), ht, by omega, by omega⟩
  simp only [sIf, dOr, dNot, dTest, dCall, dA, dA0, dV, List.getElem?_cons_zero, List.getElem?_cons_succ]
  refine call_right R2 ?_
  simp only [Bool.not_true, Bool.false_eq_true, if_false]
  refine call_right hp ?_
  simp only [Bool.not_true, Bool.false_eq_true, if_false, sNext]
  exact q _ b1 _ hS2 (by omega)
theorem mid_ok (top : Int) (T : DS) (E : DEnds) (M M1 : Mem) (dk f5 : Addr) (b : Nat) (p : Say) (fs : List (Str × Say)) (r : Int) (e0 e2 e6 o7 o8 o9 : Option D) (hS : KS 0 M M1 dk b) (hb : 5000 ≤ b) (hr : 0 ≤ r) (hp : Rt p p) (hl : M1 f5 = some (.lst (fs.map fpD))) (h5 : f5 ≠ dk) (hn : fs.map (·.1) = p.nm) (hf : FitF fs)
    (q : ∀ (b' : Nat) (t : Say) (o8 : Option D), KS 0 M (mset M1 dk (.deck 0 b')) dk b' → Fit t → b ≤ b' + 2000 → T E [e0, some (.ref dk), e2, some (.int r), some p.d, some (.ref f5), e6, some t.d, o8, o9] (mset M1 dk (.deck 0 b'))) :
    lmid top T E [e0, some (.ref dk), e2, some (.int r), some p.d, some (.ref f5), e6, o7, o8, o9] M1 := by
  obtain ⟨hp1, hp2, hp3, _, hp5, hp6⟩ := hp
  have m4 := mod_pos (r / 4) (show (0 : Int) < 4 by decide)
  have hnd : (fs.map (·.1)).Nodup := by rw [hn]; exact hp2
  have hput := put_ok hf p hp3.1
  have ft : Fit (p.put fs) := fit_of hput.1 (by omega)
  have hfit := put_fit fs p hp1
  rw [← hn, lkD_self hnd] at hfit
  have hfl := fitL_len p _ fs hfit
  simp only [lmid, sSeq, sAsg, dCall, dA, dA0, dV, dUn, gName, List.set, List.getElem?_cons_zero, List.getElem?_cons_succ, oTuple_ref, hl]
  refine call_filled hp3.1 hp5 hnd (by omega) ?_
  simp only [sIf, dNot, dTest, dCall, dA, dA0, dV, dUn, List.getElem?_cons_zero, List.getElem?_cons_succ]
  refine call_fitted hp1 hp3.1 ft.1 hp5 (by omega) ?_
  rw [hfit]
  simp only [fitD, oTuple_ref, hl]
  have sf : selfOk (.tup (fs.map fpD)) = true := by
    simp only [selfOk, Bool.and_eq_true, decide_eq_true_eq]
    refine ⟨by rw [List.length_map]; omega, self_map fpD fs fun x hx => ?_⟩
    simp [fpD, selfOk, selfOks, self_d x.2 (hf x hx).2.1]
  have df : depth (.tup (fs.map fpD)) ≤ 30 := by
    simp only [depth]
    have := depth_map fpD 10 fs fun x hx => by
      have h1 := depth_d x.2
      have h2 := (hf x hx).2.2
      simp only [fpD, depth, depths]
      omega
    omega
  refine call_same sf df ?_
  simp only [Bool.not_true, Bool.false_eq_true, if_false, sNext, sAsg, dCall, dA, dA0, dV, dOp, dC, ev_hB, gName, List.set, List.getElem?_cons_zero, List.getElem?_cons_succ, oFdiv_int, oMod_int, oAdd_int]
  refine ⟨⟨by decide, by decide⟩, by decide, ?_⟩
  refine call_any (b := b) hS.deck (by simp [hsB]) (by simp [hsB]) hsB_six (by omega) (by omega) (by rw [B4]; omega) ?_
  intro s b1 s1 s2 _ s4
  rw [B4] at s4
  have R1 : Rt p (p.put fs) := ⟨hp1, hp2, hp3, ft, hp5, hp6⟩
  have R2 : Rt p s := ⟨hp1, hp2, hp3, fit_of s1 (by omega), hp5, hp6⟩
  simp only [dOr, dNot, dTest, dCall, dA, dA0, dV, List.getElem?_cons_zero, List.getElem?_cons_succ]
  refine call_right R1 ?_
  simp only [Bool.not_true, Bool.false_eq_true, if_false]
  refine call_right R2 ?_
  simp only [Bool.not_true, Bool.false_eq_true, if_false]
  exact q b1 (p.put fs) _ (hS.draw b1) ft (by omega)
theorem law_loop (top : Int) (E : DEnds) (M : Mem) (dk : Addr) (e0 : Option D) : ∀ (n i : Nat) (M1 : Mem) (b : Nat) (o2 o3 o4 o5 o6 o7 o8 o9 : Option D), KS 0 M M1 dk b → n * 80000 ≤ b →
    (∀ (M1' : Mem) (o2 o3 o4 o5 o6 o7 o8 o9 : Option D), E.nx [e0, some (.ref dk), o2, o3, o4, o5, o6, o7, o8, o9] M1') →
    sLoop (gName 2) (lbody top) (upFrom i n) E [e0, some (.ref dk), o2, o3, o4, o5, o6, o7, o8, o9] M1 := by
  intro n
  induction n with
  | zero => intro i M1 b o2 o3 o4 o5 o6 o7 o8 o9 _ _ q; exact q M1 o2 o3 o4 o5 o6 o7 o8 o9
  | succ n ih =>
    intro i M1 b o2 o3 o4 o5 o6 o7 o8 o9 hS hb q
    rw [Nat.succ_mul] at hb
    have z := ih (i + 1)
    simp only [upFrom, sLoop]
    generalize sLoop (gName 2) (lbody top) (upFrom (i + 1) n) E = N at z ⊢
    obtain ⟨T, hT⟩ : ∃ T : DS, T = lend top := ⟨_, rfl⟩
    obtain ⟨S, hSS⟩ : ∃ S : DS, S = lmid top T := ⟨_, rfl⟩
    have el : lbody top = (sSeq (sAsg (dCall (sp_next 0 top) (dA (dV 1) dA0)) (gName 3))
      (sSeq (sAsg (dCall (sp_unlike 4) (dA (dCall (sp_any 0 4) (dA (dV 1) (dA hAe (dA (dOp oAdd (dC (.int 1)) (dOp oMod (dV 3) (dC (.int 4)))) dA0)))) (dA (dNew dA0) dA0))) (gName 4))
      (sSeq (sAsg (dNew dA0) (gName 5))
      (sSeq (sFor (iSeq (dCall sp_names (dA (dV 4) dA0))) (gName 6) (gbody top)) S)))) := by rw [hSS, hT]
    rw [el]
    simp only [gName, sSeq, sAsg, dCall, dA, dV, dA0, List.set, List.getElem?_cons_zero, List.getElem?_cons_succ]
    refine draw hS.deck (by omega) fun r b1 h0 hr hb1 => ?_
    have hS1 := hS.draw b1
    have m4 := mod_pos r (show (0 : Int) < 4 by decide)
    simp only [ev_hA, dOp, dC, dV, List.getElem?_cons_zero, List.getElem?_cons_succ, oMod_int, oAdd_int]
    refine ⟨by decide, ?_⟩
    refine call_any (b := b1) hS1.deck (by simp [hsA]) (by simp [hsA]) hsA_six (by omega) (by omega) (by rw [B4]; omega) ?_
    intro s b2 s1 s2 s3 s4
    rw [B4] at s4
    have hS2 := hS1.draw b2
    simp only [dNew, dA0]
    intro l hl
    have F := hS2.fresh hl
    have sz := size_of s1 (show s.deep ≤ 4 by omega)
    rw [Z4] at sz
    refine call_unlike (xs := []) (mset_same _ _ _) (pat_A s3) s1 (by omega) (by simp; omega) ?_
    intro p k y1 y2 y3 y4 y5
    rw [mset_mset]
    have hS3 := hS2.upd F ([] ++ (nmFrom ([] : List D).length k).map D.str)
    generalize mset (mset (mset M1 dk (.deck 0 b1)) dk (.deck 0 b2)) l (.lst ([] ++ (nmFrom ([] : List D).length k).map D.str)) = M3 at hS3 ⊢
    have z2 := size_of y2 (show p.deep ≤ 4 by omega)
    rw [Z4] at z2
    have hnd : p.nm.Nodup := by rw [y5]; exact nmFrom_nodup _ _
    have fp : Fit p := fit_of y2 (by omega)
    have R : Rt p p := ⟨y1, hnd, fp, fp, by omega, by omega⟩
    have hkl : p.nm.length = k := by rw [y5]; simp [nmFrom]
    have nn : namesL (p.nds []) [] = p.nm := by
      have := names_nm p [] [] y1 (by simpa using hnd)
      simpa using this
    intro f5 hf5
    have F5 := hS3.fresh hf5
    have hS4 := hS3.upd F5 []
    simp only [sFor, iSeq, dCall, dA, dA0, dV, List.getElem?_cons_zero, List.getElem?_cons_succ]
    refine call_names fp ?_
    rw [nn]
    simp only []
    refine fill_loop top _ M dk f5 F5 _ _ _ _ _ _ _ p.nm [] _ b2 _ hS4 (by rw [hkl]; omega) (mset_same _ _ _) (by rw [hkl]; simp; omega) ?_ (by intro y hy; cases hy) ?_
    · intro x hx
      rw [y5] at hx
      obtain ⟨j, hj, rfl⟩ := List.mem_map.mp hx
      have := List.mem_range'.mp hj
      obtain ⟨c, hc, rfl⟩ := this
      simp only [List.length_nil, Nat.one_mul, Nat.zero_add]
      exact nm_str (nm_okAt _ (by omega))
    · intro M5 fs b5 o6 w1 w2 w3 w4 w5
      rw [hkl] at w5
      rw [hSS]
      refine mid_ok top T _ M M5 dk f5 b5 p fs r _ _ _ _ _ _ w1 (by omega) h0 R w2 F5.1 (by simpa using w3) w4 ?_
      intro b6 t o8 v1 v2 v3
      rw [hT]
      refine end_ok top _ M _ dk b6 p t r _ _ _ _ _ _ v1 (by omega) h0 R v2 ?_
      intro M7 b7 o9 u1 u2
      have hk4 : k * 1400 ≤ 56000 := Nat.mul_le_mul_right 1400 (show k ≤ 40 by omega)
      have hfin : n * 80000 ≤ b7 := by
        clear z q hS hS1 hS2 hS3 hS4 w1 v1 u1 R F F5 el hT hSS
        generalize n * 80000 = nn at *
        omega
      exact z M7 b7 _ _ _ _ _ _ _ _ u1 hfin q
theorem t_law_eq (top : Int) : t_law sp_right (sp_unlike 4) (sp_any 0 4) (sp_same 30) (sp_fitted 4) (sp_filled 4) sp_names (sp_next 0 top) (sp_deck 0 1000000) = (sSeq (sAsg (dCall (sp_deck 0 1000000) (dA (dV 0) dA0)) (gName 1))
  (sSeq (sFor (iRange (dC (.int 10))) (gName 2) (lbody top))
  (sRet (dC (.bl true))))) := rfl
theorem does_law (top : Int) : Does 10 (t_law sp_right (sp_unlike 4) (sp_any 0 4) (sp_same 30) (sp_fitted 4) (sp_filled 4) sp_names (sp_next 0 top) (sp_deck 0 1000000)) 1 sp_law := by
  rintro ds M hl ⟨ns, rfl, hlen, rfl⟩
  rw [t_law_eq]
  generalize hlb : lbody top = lb
  simp only [sSeq, sAsg, dCall, dA, dA0, dV, gName, start, List.map_cons, List.map_nil, List.length_cons, List.length_nil, List.replicate, List.cons_append, List.nil_append, List.getElem?_cons_zero, List.getElem?_cons_succ, List.set]
  refine ⟨⟨ns, rfl, hlen, rfl⟩, ?_⟩
  rintro d M1 ⟨dk, rfl, h1⟩
  simp only [sFor, iRange, dC]
  refine ⟨by decide, ?_⟩
  rw [upTo_eq, ← hlb]
  refine law_loop top _ M1 dk _ 10 0 M1 1000000 _ _ _ _ _ _ _ _ (KS.start h1) (by decide) ?_
  intro M2 o2 o3 o4 o5 o6 o7 o8 o9
  exact Ret.now rfl
/-! ### the deck of kind nought, as it is made and drawn from -/
def smallI (ns : List Int) : Prop := ∀ x ∈ ns, 0 ≤ x ∧ x < 2147483629
theorem small_snoc {ns : List Int} {x : Int} (h : smallI ns) (h0 : 0 ≤ x) (h1 : x < 2147483629) : smallI (ns ++ [x]) := by
  intro y hy
  rcases List.mem_append.mp hy with hy | hy
  · exact h y hy
  · rw [List.mem_singleton.mp hy]; exact ⟨h0, h1⟩
/-- what lies where -/
structure DeckAt (M : Mem) (dk dg cl : Addr) (n : Int) (ds cs : List Int) : Prop where
  ne1 : dg ≠ cl
  ne2 : dg ≠ dk
  ne3 : cl ≠ dk
  at0 : M dk = some (.lst [.ref dg, .ref cl, .int n])
  at1 : M dg = some (.lst (intsD ds))
  at2 : M cl = some (.lst (intsD cs))
  s1 : smallI ds
  s2 : smallI cs
  nn : cs ≠ []
  n0 : 0 ≤ n
def sp_nextC : Spec := ⟨fun as M => ∃ dk dg cl n ds cs, as = [.ref dk] ∧ DeckAt M dk dg cl n ds cs ∧ n + 1 ≤ 2 ^ 40,
  fun as M d M' => ∀ dk dg cl n ds cs, as = [.ref dk] → DeckAt M dk dg cl n ds cs → ∃ (k n' : Int) (ds' : List Int), d = .int k ∧ 0 ≤ k ∧ k < 2147483629 ∧ M' = mset (mset M dk (.lst [.ref dg, .ref cl, .int n'])) dg (.lst (intsD ds')) ∧ 0 ≤ n' ∧ n' ≤ n + 1 ∧ smallI ds'⟩
theorem DeckAt.one {M : Mem} {dk dg cl dg' cl' : Addr} {n n' : Int} {ds cs ds' cs' : List Int} (a : DeckAt M dk dg cl n ds cs) (b : DeckAt M dk dg' cl' n' ds' cs') : dg' = dg ∧ cl' = cl ∧ n' = n ∧ ds' = ds ∧ cs' = cs := by
  have h := a.at0.symm.trans b.at0
  simp only [Option.some.injEq, MO.lst.injEq, List.cons.injEq, D.ref.injEq, D.int.injEq, and_true] at h
  obtain ⟨rfl, rfl, rfl⟩ := h
  have inj : ∀ {u v : List Int}, intsD u = intsD v → v = u := by
    intro u
    induction u with
    | nil => intro v h; cases v with
      | nil => rfl
      | cons y v => cases h
    | cons x u ih =>
      intro v h
      cases v with
      | nil => cases h
      | cons y v =>
        simp only [intsD, List.map_cons, List.cons.injEq, D.int.injEq] at h
        rw [h.1, ih h.2]
  have h1 := a.at1.symm.trans b.at1
  have h2 := a.at2.symm.trans b.at2
  simp only [Option.some.injEq, MO.lst.injEq] at h1 h2
  exact ⟨rfl, rfl, rfl, inj h1, inj h2⟩
theorem plain_ints : ∀ ns : List Int, plains (intsD ns) = true
  | [] => by simp [intsD, plains]
  | n :: r => by
    have := plain_ints r
    show plains (.int n :: intsD r) = true
    simp [plains, plain, this]
theorem depth_ints : ∀ ns : List Int, depths (intsD ns) ≤ 1
  | [] => by simp [intsD, depths]
  | n :: r => by
    have := depth_ints r
    show depths (.int n :: intsD r) ≤ 1
    simp only [depths, depth]
    omega
theorem cmp_ints (ns : List Int) : cmpOk (.lst (intsD ns)) = true := by
  have h1 := plain_ints ns
  have h2 : depths (intsD ns) + 1 ≤ 64 := by have := depth_ints ns; omega
  simp only [cmpOk, plain, depth, h1, Bool.true_and]
  exact decide_eq_true h2
theorem cmp_nil0 : cmpOk (.lst []) = true := by decide +kernel
theorem does_next : Does 3 t__law_next 1 sp_nextC := by
  rintro as M hl ⟨dk, dg, cl, n, ds, cs, rfl, A, hn⟩
  have h0 := A.at0
  have h1 := A.at1
  have h2 := A.at2
  cases ds with
  | cons x r =>
    have hx := A.s1 x (by simp)
    have hev : eqv (.lst (intsD (x :: r))) (.lst []) = false := by simp [intsD]
    have hc := cmp_ints (x :: r)
    have fin : Ret sp_nextC [.ref dk] M (.int x) (mset M dg (.lst (intsD r))) := by
      refine Ret.now fun dk' dg' cl' n' ds' cs' e B => ?_
      simp only [List.cons.injEq, D.ref.injEq, and_true] at e
      subst e
      obtain ⟨rfl, rfl, rfl, rfl, rfl⟩ := A.one B
      refine ⟨x, n', r, rfl, hx.1, hx.2, by rw [mset_self h0], A.n0, by omega, fun y hy => A.s1 y (List.mem_cons_of_mem _ hy)⟩
    simp [t__law_next, h0, h1, atI, ixN, hc, cmp_nil0, hev]
    exact fin
  | nil =>
    have hne : M dk = M dk := rfl
    have hpos : 0 < (cs.length : Int) := by
      have := List.length_pos_iff.mpr A.nn
      omega
    obtain ⟨c, hc, hcm⟩ : ∃ c, atI (intsD cs) ((n + 1) % (cs.length : Int)) = some (.int c) ∧ c ∈ cs := by
      have h1 := Int.emod_nonneg (n + 1) (Int.ne_of_gt hpos)
      have h2 := Int.emod_lt_of_pos (n + 1) hpos
      obtain ⟨j, hj⟩ := Int.eq_ofNat_of_zero_le h1
      rw [hj] at h2 ⊢
      have hj' : j < cs.length := by omega
      refine ⟨cs[j], ?_, List.getElem_mem hj'⟩
      rw [atI_nat' (by simpa [intsD] using hj')]
      simp [intsD]
    have hcs := A.s2 c hcm
    have hn0 := A.n0
    have ml : (mset M dk (.lst [.ref dg, .ref cl, .int (n + 1)])) cl = some (.lst (intsD cs)) := by rw [mset_ne A.ne3]; exact h2
    have hlen : (intsD cs).length = cs.length := by simp [intsD]
    have fin : ∀ k : Int, 0 ≤ k → k < 2147483629 → Ret sp_nextC [.ref dk] M (.int k) (mset M dk (.lst [.ref dg, .ref cl, .int (n + 1)])) := by
      intro k hk0 hk1
      refine Ret.now fun dk' dg' cl' n' ds' cs' e B => ?_
      simp only [List.cons.injEq, D.ref.injEq, and_true] at e
      subst e
      obtain ⟨rfl, rfl, rfl, rfl, rfl⟩ := A.one B
      refine ⟨k, n' + 1, [], rfl, hk0, hk1, ?_, by omega, by omega, fun y hy => by simp at hy⟩
      rw [mset_self (show mset M dk (.lst [.ref dg', .ref cl', .int (n' + 1)]) dg' = some (.lst (intsD [])) by rw [mset_ne A.ne2]; exact h1)]
    have e0 : intsD [] = [] := rfl
    rw [e0] at h1
    simp [t__law_next, h0, h1, atI3_0, atI3_1, atI3_2, ixN3, cmp_nil0, ml, hlen, hc]
    refine ⟨List.length_pos_iff.mpr A.nn, ?_⟩
    simp [hc, small]
    refine ⟨by omega, ?_⟩
    exact fin _ (Int.emod_nonneg _ (by decide)) (Int.emod_lt_of_pos _ (by decide))

/-! ### the deck is made -/
abbrev ktest : DT := dAnd (dTest (dOp oGe (dV 3) (dOp oPow (dC (.int 10)) (dC (.int 18))))) (dTest (dOp oLt (dUn oLen (dV 1)) (dC (.int 900))))
abbrev kbody : DS := (sSeq (sExpr (dMeth mAppend (dV 1) (dOp oMod (dV 3) (dC (.int 2147483629)))))
  (sAsg (dOp oFdiv (dV 3) (dC (.int 2147483629))) (gName 3)))
theorem deck_while (E : DEnds) (M : Mem) (dg cl : Addr) (hne : dg ≠ cl) (o0 : Option D) (cs : List Int)
    (fin : ∀ ds x, smallI ds → ds.length ≤ 900 → E.nx [o0, some (.ref dg), some (.ref cl), some (.int x)] (mset (mset M dg (.lst (intsD ds))) cl (.lst (intsD cs)))) : ∀ (m : Nat) (ds : List Int) (x : Int), ds.length + m = 900 → smallI ds →
    sWhileN ktest kbody (m + 1) E [o0, some (.ref dg), some (.ref cl), some (.int x)] (mset (mset M dg (.lst (intsD ds))) cl (.lst (intsD cs))) := by
  intro m
  induction m with
  | zero =>
    intro ds x hm hs
    have ml : ∀ A B, (mset (mset M dg A) cl B) dg = some A := fun A B => by rw [mset_ne hne, mset_same]
    have hl : (intsD ds).length = ds.length := by simp [intsD]
    have h9 : ds.length = 900 := by omega
    have f := fin ds x hs (by omega)
    simp only [sWhileN]
    simp [ml, hl, h9]
    exact f
  | succ m ih =>
    intro ds x hm hs
    have ml : ∀ A B, (mset (mset M dg A) cl B) dg = some A := fun A B => by rw [mset_ne hne, mset_same]
    have nf : ∀ A A' B', mset (mset (mset M dg A) cl B') dg A' = mset (mset M dg A') cl B' := fun A A' B' => by rw [mset_comm (Ne.symm hne), mset_mset]
    have hl : (intsD ds).length = ds.length := by simp [intsD]
    have f := fin ds x hs (by omega)
    have z := ih (ds ++ [x % 2147483629]) (x / 2147483629) (by simp; omega) (small_snoc hs (Int.emod_nonneg _ (by decide)) (Int.emod_lt_of_pos _ (by decide)))
    have ea : intsD (ds ++ [x % 2147483629]) = intsD ds ++ [.int (x % 2147483629)] := by simp [intsD]
    rw [ea] at z
    rw [sWhileN]
    by_cases hx : (1000000000000000000 : Int) ≤ x
    · have h9 : ds.length < 900 := by omega
      have h9' : (ds.length : Int) < 900 := by omega
      simp [ml, hl, hx, h9, h9', nf]
      exact ⟨by omega, z⟩
    · have hx' : decide ((1000000000000000000 : Int) ≤ x) = false := decide_eq_false hx
      simp [ml, hl, hx, hx']
      exact f
def sp_deckC : Spec := ⟨fun ds M => ∃ ns : List Int, ds = [.rol (ns.map D.int)] ∧ ns.length ≤ 63 ∧ M = fun _ => none,
  fun _ _ d M' => ∃ dk dg cl ds cs, d = .ref dk ∧ DeckAt M' dk dg cl 0 ds cs ∧ ∀ a, a ≠ dk → a ≠ dg → a ≠ cl → M' a = none⟩
theorem deck_for (E : DEnds) (M : Mem) (dg cl : Addr) (hne : dg ≠ cl) (o0 : Option D)
    (fin : ∀ ds cs o3, smallI ds → smallI cs → cs ≠ [] → E.nx [o0, some (.ref dg), some (.ref cl), o3] (mset (mset M dg (.lst (intsD ds))) cl (.lst (intsD cs)))) : ∀ (xs ds cs : List Int) (o3 : Option D), ds.length ≤ 900 → cs.length + xs.length ≤ 64 → smallI ds → smallI cs → cs ≠ [] →
    sLoop (gName 3) (sSeq (sAsg (dUn oAbs (dV 3)) (gName 3))
      (sSeq (sExpr (dMeth mAppend (dV 2) (dOp oMod (dV 3) (dC (.int 2147483629))))) (sWhile ktest kbody))) (xs.map D.int) E [o0, some (.ref dg), some (.ref cl), o3] (mset (mset M dg (.lst (intsD ds))) cl (.lst (intsD cs))) := by
  intro xs
  induction xs with
  | nil => intro ds cs o3 _ _ h1 h2 h3; exact fin ds cs o3 h1 h2 h3
  | cons x xs ih =>
    intro ds cs o3 hd hc h1 h2 h3
    have hl : (intsD cs).length = cs.length := by simp [intsD]
    simp only [List.length_cons] at hc
    simp only [List.map_cons, sLoop]
    have z := fun (y : Int) (h0 : 0 ≤ y % 2147483629) (h0' : y % 2147483629 < 2147483629) => deck_while { E with nx := sLoop (gName 3) (sSeq (sAsg (dUn oAbs (dV 3)) (gName 3)) (sSeq (sExpr (dMeth mAppend (dV 2) (dOp oMod (dV 3) (dC (.int 2147483629))))) (sWhile ktest kbody))) (xs.map D.int) E, ct := sLoop (gName 3) (sSeq (sAsg (dUn oAbs (dV 3)) (gName 3)) (sSeq (sExpr (dMeth mAppend (dV 2) (dOp oMod (dV 3) (dC (.int 2147483629))))) (sWhile ktest kbody))) (xs.map D.int) E, bk := E.nx } M dg cl hne o0 (cs ++ [y % 2147483629])
      (fun ds' x' hs' hd' => ih ds' (cs ++ [y % 2147483629]) _ hd' (by simp; omega) hs' (small_snoc h2 h0 h0') (by simp)) (900 - ds.length) ds y (by omega) h1
    have ea : ∀ y : Int, intsD (cs ++ [y]) = intsD cs ++ [.int y] := fun y => by simp [intsD]
    have z' := z (if x < 0 then -x else x) (Int.emod_nonneg _ (by decide)) (Int.emod_lt_of_pos _ (by decide))
    rw [ea] at z'
    generalize sLoop (gName 3) (sSeq (sAsg (dUn oAbs (dV 3)) (gName 3)) (sSeq (sExpr (dMeth mAppend (dV 2) (dOp oMod (dV 3) (dC (.int 2147483629))))) (sWhile ktest kbody))) (xs.map D.int) E = N at z' ⊢
    have z2 : ∃ n, sWhileN ktest kbody n { E with nx := N, ct := N, bk := E.nx } [o0, some (.ref dg), some (.ref cl), some (.int (if x < 0 then -x else x))] (mset (mset M dg (.lst (intsD ds))) cl (.lst (intsD cs ++ [.int ((if x < 0 then -x else x) % 2147483629)]))) := ⟨_, z'⟩
    change sWhile ktest kbody _ _ _ at z2
    generalize sWhile ktest kbody = W at z2 ⊢
    simp [hl]
    exact ⟨by omega, z2⟩
theorem does_deck : Does 4 t__law_deck 1 sp_deckC := by
  rintro as M hl ⟨ns, rfl, hns, rfl⟩
  show ∀ p, _ → _
  intro dg hdg
  show ∀ p, _ → _
  intro cl hcl
  have hne : dg ≠ cl := fun e => by rw [e, mset_same] at hcl; cases hcl
  have hcut : cut (ns.map D.int) none (some 63) = ns.map D.int := by
    simp [cut, sIx]
    exact List.take_of_length_le (by simp; omega)
  show sLoop (gName 3) (sSeq (sAsg (dUn oAbs (dV 3)) (gName 3))
      (sSeq (sExpr (dMeth mAppend (dV 2) (dOp oMod (dV 3) (dC (.int 2147483629))))) (sWhile ktest kbody))) (cut (ns.map D.int) none (some 63)) _ [some (.rol (ns.map D.int)), some (.ref dg), some (.ref cl), none] (mset (mset (fun _ => none) dg (.lst [])) cl (.lst [.int ((ns.map D.int).length : Int)]))
  rw [hcut, List.length_map]
  refine deck_for _ (fun _ => none) dg cl hne _ ?_ ns [] [(ns.length : Int)] none (by simp) (by simp; omega) (fun y hy => by simp at hy) (fun y hy => by simp at hy; subst hy; omega) (by simp)
  intro ds cs o3 h1 h2 h3
  show ∀ p, _ → _
  intro dk hdk
  have n1 : dk ≠ cl := fun e => by rw [e, mset_same] at hdk; cases hdk
  have n2 : dk ≠ dg := fun e => by rw [e, mset_ne hne, mset_same] at hdk; cases hdk
  refine Ret.now ⟨dk, dg, cl, ds, cs, rfl, ⟨hne, Ne.symm n2, Ne.symm n1, mset_same _ _ _, ?_, ?_, h1, h2, h3, by omega⟩, fun a a1 a2 a3 => ?_⟩
  · rw [mset_ne (Ne.symm n2), mset_ne hne, mset_same]
  · rw [mset_ne (Ne.symm n1), mset_same]
  · rw [mset_ne a1, mset_ne a3, mset_ne a2]
end DL
end
namespace DL
open PySem PySem.Spec PyProof.Rows L2
def top (i : Nat) : Stmt := PySem.Challenge.pw_needfill_k05_whole_fitted_and_filled.main.body.getD i (.Pass ⟨0, 0, 0, 0⟩)
section
variable {P : Program} {w : World} {K : PySem.W.Frag} {mg : Str → Option Value} {base : Heap} {k : Nat}
abbrev s_parts_of : Stmt := top 1
abbrev N_parts_of : List Str := ["saying"]
theorem sc_parts_of : FnScope N_parts_of ["saying"] (defScope s_parts_of) := ⟨rfl, rfl, rfl, by decide +kernel, rfl, by decide +kernel, by decide +kernel⟩
theorem fn_parts_of {a : Addr} {fd : FuncData} {sp : Spec} (F : FunD K "parts_of" "parts_of" (defArgs s_parts_of) (defBody s_parts_of) (defScope s_parts_of) [] [] a fd) (hm : mg "parts_of" = some (.ref a)) (does : Does 1 (t_parts_of) 1 sp) : Fn P w K mg base (k + 1) "parts_of" 1 sp := by
  refine ⟨a, fd, ["saying"], def_ok F sc_parts_of rfl (fun cdv A outer s H E hr => ?_) does, hm, F.kp, F.bindsN fun _ _ _ _ _ _ us hl => match us, hl with | [_], _ => rfl⟩
  have nd := sc_parts_of.nd
  exact ⟨_, (rss_cons (rs_if (rt_cmp (c_in K) (re_ix K (re_v 0) re_int) (re_tup (ra_cons re_str (ra_cons re_str ra_nil)))) (rss_one (rs_ret (re_ix K (re_v 0) re_int))) rss_nil)
  (rss_cons (rs_if (rt_cmp (c_in K) (re_ix K (re_v 0) re_int) (re_tup (ra_cons re_str (ra_cons re_str ra_nil)))) (rss_one (rs_ret (re_cut K (re_v 0) (ro_some re_int) ro_none))) rss_nil)
  (rss_one (rs_ret (re_tup ra_nil)))))⟩
abbrev s_rebuilt : Stmt := top 2
abbrev N_rebuilt : List Str := ["saying", "parts"]
theorem sc_rebuilt : FnScope N_rebuilt ["saying", "parts"] (defScope s_rebuilt) := ⟨rfl, rfl, rfl, by decide +kernel, rfl, by decide +kernel, by decide +kernel⟩
theorem fn_rebuilt {a : Addr} {fd : FuncData} {sp : Spec} (F : FunD K "rebuilt" "rebuilt" (defArgs s_rebuilt) (defBody s_rebuilt) (defScope s_rebuilt) [] [] a fd) (hm : mg "rebuilt" = some (.ref a)) (m_tuple : mg "tuple" = none) (does : Does 2 (t_rebuilt) 2 sp) : Fn P w K mg base (k + 1) "rebuilt" 2 sp := by
  refine ⟨a, fd, ["saying", "parts"], def_ok F sc_rebuilt rfl (fun cdv A outer s H E hr => ?_) does, hm, F.kp, F.bindsN fun _ _ _ _ _ _ us hl => match us, hl with | [_, _], _ => rfl⟩
  have nd := sc_rebuilt.nd
  exact ⟨_, (rss_cons (rs_if (rt_cmp (c_in K) (re_ix K (re_v 0) re_int) (re_tup (ra_cons re_str (ra_cons re_str ra_nil)))) (rss_one (rs_ret (re_tup (ra_cons (re_ix K (re_v 0) re_int) (ra_cons (re_ix K (re_v 0) re_int) (ra_cons (re_bT (b_tuple K) boot_tuple (by rfl) m_tuple (re_v 1)) ra_nil)))))) rss_nil)
  (rss_cons (rs_if (rt_cmp (c_in K) (re_ix K (re_v 0) re_int) (re_tup (ra_cons re_str (ra_cons re_str ra_nil)))) (rss_one (rs_ret (re_add K (re_tup (ra_cons (re_ix K (re_v 0) re_int) ra_nil)) (re_bT (b_tuple K) boot_tuple (by rfl) m_tuple (re_v 1))))) rss_nil)
  (rss_one (rs_ret (re_v 0)))))⟩
abbrev s_add_nodes : Stmt := top 3
abbrev N_add_nodes : List Str := ["found", "path", "saying", "number", "part"]
theorem sc_add_nodes : FnScope N_add_nodes ["found", "path", "saying"] (defScope s_add_nodes) := ⟨rfl, rfl, rfl, by decide +kernel, rfl, by decide +kernel, by decide +kernel⟩
theorem fn_add_nodes {a : Addr} {fd : FuncData} {sp : Spec} (F : FunD K "add_nodes" "add_nodes" (defArgs s_add_nodes) (defBody s_add_nodes) (defScope s_add_nodes) [] [] a fd) (hm : mg "add_nodes" = some (.ref a)) {sp_parts_of : Spec} (c_parts_of : Fn P w K mg base k "parts_of" 1 sp_parts_of) {sp_add_nodes : Spec} (c_add_nodes : Fn P w K mg base k "add_nodes" 3 sp_add_nodes) (m_enumerate : mg "enumerate" = none) (does : Does 5 (t_add_nodes sp_parts_of sp_add_nodes) 3 sp) : Fn P w K mg base (k + 1) "add_nodes" 3 sp := by
  refine ⟨a, fd, ["found", "path", "saying"], def_ok F sc_add_nodes rfl (fun cdv A outer s H E hr => ?_) does, hm, F.kp, F.bindsN fun _ _ _ _ _ _ us hl => match us, hl with | [_, _, _], _ => rfl⟩
  have nd := sc_add_nodes.nd
  exact ⟨_, (rss_cons (rs_expr (re_append K (re_v 0) (re_tup (ra_cons (re_v 1) (ra_cons (re_v 2) ra_nil)))))
  (rss_one (rs_for PassesOwn.never rfl (ri_enum K (by rfl) m_enumerate (re_fn K c_parts_of hr (by rfl) (ra_cons (re_v 2) ra_nil))) (rg_tup K (by rfl) (rgs_name (i := 3) nd (by rfl) (by first | exact Or.inl rfl | exact Or.inr rfl) (rgs_name (i := 4) nd (by rfl) (by first | exact Or.inl rfl | exact Or.inr rfl) rgs_nil))) (rss_one (rs_expr (re_fn K c_add_nodes hr (by rfl) (ra_cons (re_v 0) (ra_cons (re_add K (re_v 1) (re_tup (ra_cons (re_v 3) ra_nil))) (ra_cons (re_v 4) ra_nil)))))))))⟩
abbrev s_nodes_of : Stmt := top 4
abbrev N_nodes_of : List Str := ["saying", "found"]
theorem sc_nodes_of : FnScope N_nodes_of ["saying"] (defScope s_nodes_of) := ⟨rfl, rfl, rfl, by decide +kernel, rfl, by decide +kernel, by decide +kernel⟩
theorem fn_nodes_of {a : Addr} {fd : FuncData} {sp : Spec} (F : FunD K "nodes_of" "nodes_of" (defArgs s_nodes_of) (defBody s_nodes_of) (defScope s_nodes_of) [] [] a fd) (hm : mg "nodes_of" = some (.ref a)) {sp_add_nodes : Spec} (c_add_nodes : Fn P w K mg base k "add_nodes" 3 sp_add_nodes) (m_tuple : mg "tuple" = none) (does : Does 2 (t_nodes_of sp_add_nodes) 1 sp) : Fn P w K mg base (k + 1) "nodes_of" 1 sp := by
  refine ⟨a, fd, ["saying"], def_ok F sc_nodes_of rfl (fun cdv A outer s H E hr => ?_) does, hm, F.kp, F.bindsN fun _ _ _ _ _ _ us hl => match us, hl with | [_], _ => rfl⟩
  have nd := sc_nodes_of.nd
  exact ⟨_, (rss_cons (rs_set (i := 1) nd rfl (by first | exact Or.inl rfl | exact Or.inr rfl) (re_new ra_nil))
  (rss_cons (rs_expr (re_fn K c_add_nodes hr (by rfl) (ra_cons (re_v 1) (ra_cons (re_tup ra_nil) (ra_cons (re_v 0) ra_nil)))))
  (rss_one (rs_ret (re_bT (b_tupP K) boot_tuple (by rfl) m_tuple (re_v 1))))))⟩
abbrev s_names_of : Stmt := top 5
abbrev N_names_of : List Str := ["saying", "found", "path", "node"]
theorem sc_names_of : FnScope N_names_of ["saying"] (defScope s_names_of) := ⟨rfl, rfl, rfl, by decide +kernel, rfl, by decide +kernel, by decide +kernel⟩
theorem fn_names_of {a : Addr} {fd : FuncData} {sp : Spec} (F : FunD K "names_of" "names_of" (defArgs s_names_of) (defBody s_names_of) (defScope s_names_of) [] [] a fd) (hm : mg "names_of" = some (.ref a)) {sp_nodes_of : Spec} (c_nodes_of : Fn P w K mg base k "nodes_of" 1 sp_nodes_of) (m_tuple : mg "tuple" = none) (does : Does 4 (t_names_of sp_nodes_of) 1 sp) : Fn P w K mg base (k + 1) "names_of" 1 sp := by
  refine ⟨a, fd, ["saying"], def_ok F sc_names_of rfl (fun cdv A outer s H E hr => ?_) does, hm, F.kp, F.bindsN fun _ _ _ _ _ _ us hl => match us, hl with | [_], _ => rfl⟩
  have nd := sc_names_of.nd
  exact ⟨_, (rss_cons (rs_set (i := 1) nd rfl (by first | exact Or.inl rfl | exact Or.inr rfl) (re_new ra_nil))
  (rss_cons (rs_for PassesOwn.never rfl (ri_seqP K (re_fn K c_nodes_of hr (by rfl) (ra_cons (re_v 0) ra_nil))) (rg_tup K (by rfl) (rgs_name (i := 2) nd (by rfl) (by first | exact Or.inl rfl | exact Or.inr rfl) (rgs_name (i := 3) nd (by rfl) (by first | exact Or.inl rfl | exact Or.inr rfl) rgs_nil))) (rss_one (rs_if (rt_w (rw_and (rt_cmp (c_eq K hr) (re_ix K (re_v 3) re_int) re_str) (rw_and1 (rt_cmp (c_notIn K) (re_ix K (re_v 3) re_int) (re_v 1))))) (rss_one (rs_expr (re_append K (re_v 1) (re_ix K (re_v 3) re_int)))) rss_nil)))
  (rss_one (rs_ret (re_bT (b_tuple K) boot_tuple (by rfl) m_tuple (re_v 1))))))⟩
abbrev s_filled_by : Stmt := top 6
abbrev N_filled_by : List Str := ["saying", "table", "part"]
theorem sc_filled_by : FnScope N_filled_by ["saying", "table"] (defScope s_filled_by) := ⟨rfl, rfl, rfl, by decide +kernel, rfl, by decide +kernel, by decide +kernel⟩
theorem fn_filled_by {a : Addr} {fd : FuncData} {sp : Spec} (F : FunD K "filled_by" "filled_by" (defArgs s_filled_by) (defBody s_filled_by) (defScope s_filled_by) [] [] a fd) (hm : mg "filled_by" = some (.ref a)) {sp_rebuilt : Spec} (c_rebuilt : Fn P w K mg base k "rebuilt" 2 sp_rebuilt) {sp_parts_of : Spec} (c_parts_of : Fn P w K mg base k "parts_of" 1 sp_parts_of) {sp_filled_by : Spec} (c_filled_by : Fn P w K mg base k "filled_by" 2 sp_filled_by) (does : Does 3 (t_filled_by sp_rebuilt sp_parts_of sp_filled_by) 2 sp) : Fn P w K mg base (k + 1) "filled_by" 2 sp := by
  refine ⟨a, fd, ["saying", "table"], def_ok F sc_filled_by rfl (fun cdv A outer s H E hr => ?_) does, hm, F.kp, F.bindsN fun _ _ _ _ _ _ us hl => match us, hl with | [_, _], _ => rfl⟩
  have nd := sc_filled_by.nd
  exact ⟨_, (rss_cons (rs_if (rt_cmp (c_eq K hr) (re_ix K (re_v 0) re_int) re_str) (rss_one (rs_ret (re_get2 hr (re_v 1) (re_ix K (re_v 0) re_int) (re_v 0)))) rss_nil)
  (rss_one (rs_ret (re_fn K c_rebuilt hr (by rfl) (ra_cons (re_v 0) (ra_cons (re_comp (by rfl) nd (ri_seq K (re_fn K c_parts_of hr (by rfl) (ra_cons (re_v 0) ra_nil))) (blkOk_by (own := [("part", 2)]) (N := N_filled_by) (sc := defScope s_filled_by) (by decide +kernel)) (fun _ _ _ _ _ => (rg_name (i := 2) nd (by rfl) (by first | exact Or.inl rfl | exact Or.inr rfl))) (own_name (i := 2) (by decide)) (fun _ _ _ _ _ => rts_nil) (fun _ _ _ _ _ => (re_fn K c_filled_by hr (by rfl) (ra_cons (re_v 2) (ra_cons (re_v 1) ra_nil))))) ra_nil))))))⟩
abbrev s_filled : Stmt := top 7
abbrev N_filled : List Str := ["saying", "fills", "name", "one"]
theorem sc_filled : FnScope N_filled ["saying", "fills"] (defScope s_filled) := ⟨rfl, rfl, rfl, by decide +kernel, rfl, by decide +kernel, by decide +kernel⟩
theorem fn_filled {a : Addr} {fd : FuncData} {sp : Spec} (F : FunD K "filled" "filled" (defArgs s_filled) (defBody s_filled) (defScope s_filled) [] [] a fd) (hm : mg "filled" = some (.ref a)) {sp_filled_by : Spec} (c_filled_by : Fn P w K mg base k "filled_by" 2 sp_filled_by) (does : Does 4 (t_filled sp_filled_by) 2 sp) : Fn P w K mg base (k + 1) "filled" 2 sp := by
  refine ⟨a, fd, ["saying", "fills"], def_ok F sc_filled rfl (fun cdv A outer s H E hr => ?_) does, hm, F.kp, F.bindsN fun _ _ _ _ _ _ us hl => match us, hl with | [_, _], _ => rfl⟩
  have nd := sc_filled.nd
  exact ⟨_, (rss_one (rs_ret (re_fn K c_filled_by hr (by rfl) (ra_cons (re_v 0) (ra_cons (re_dcomp (by rfl) nd (ri_seq K (re_v 1)) (blkOk_by (own := [("name", 2), ("one", 3)]) (N := N_filled) (sc := defScope s_filled) (by decide +kernel)) (fun _ _ _ _ _ => (rg_tup K (by rfl) (rgs_name (i := 2) nd (by rfl) (by first | exact Or.inl rfl | exact Or.inr rfl) (rgs_name (i := 3) nd (by rfl) (by first | exact Or.inl rfl | exact Or.inr rfl) rgs_nil)))) (own_tup (owns_cons (own_name (i := 2) (by decide)) (owns_cons (own_name (i := 3) (by decide)) owns_nil))) (fun _ _ _ _ _ => rts_nil) (fun _ _ _ _ _ => (re_v 2)) (fun _ _ _ _ _ => (re_v 3))) ra_nil)))))⟩
abbrev s_fitted : Stmt := top 8
abbrev N_fitted : List Str := ["pattern", "thing", "found", "part", "one", "fills"]
theorem sc_fitted : FnScope N_fitted ["pattern", "thing"] (defScope s_fitted) := ⟨rfl, rfl, rfl, by decide +kernel, rfl, by decide +kernel, by decide +kernel⟩
theorem fn_fitted {a : Addr} {fd : FuncData} {sp : Spec} (F : FunD K "fitted" "fitted" (defArgs s_fitted) (defBody s_fitted) (defScope s_fitted) [] [] a fd) (hm : mg "fitted" = some (.ref a)) {sp_fitted : Spec} (c_fitted : Fn P w K mg base k "fitted" 2 sp_fitted) (m_zip : mg "zip" = none) (m_len : mg "len" = none) (does : Does 6 (t_fitted sp_fitted) 2 sp) : Fn P w K mg base (k + 1) "fitted" 2 sp := by
  refine ⟨a, fd, ["pattern", "thing"], def_ok F sc_fitted rfl (fun cdv A outer s H E hr => ?_) does, hm, F.kp, F.bindsN fun _ _ _ _ _ _ us hl => match us, hl with | [_, _], _ => rfl⟩
  have nd := sc_fitted.nd
  exact ⟨_, (rss_cons (rs_if (rt_cmp (c_eq K hr) (re_ix K (re_v 0) re_int) re_str) (rss_one (rs_ret (re_tup (ra_cons (re_tup (ra_cons (re_ix K (re_v 0) re_int) (ra_cons (re_v 1) ra_nil))) ra_nil)))) rss_nil)
  (rss_cons (rs_if (rt_w (rw_or (rt_cmp (c_ne K hr) (re_ix K (re_v 1) re_int) re_str) (rw_or (rt_cmp (c_ne K hr) (re_ix K (re_v 1) re_int) (re_ix K (re_v 0) re_int)) (rw_or1 (rt_cmp (c_ne K hr) (re_b1 (b_len K) PySem.boot_len (by rfl) m_len (re_ix K (re_v 1) re_int)) (re_b1 (b_len K) PySem.boot_len (by rfl) m_len (re_ix K (re_v 0) re_int))))))) (rss_one (rs_ret re_non)) rss_nil)
  (rss_cons (rs_set (i := 2) nd rfl (by first | exact Or.inl rfl | exact Or.inr rfl) (re_tup ra_nil))
  (rss_cons (rs_for PassesOwn.never rfl (ri_zip K (by rfl) m_zip (re_ix K (re_v 0) re_int) (re_ix K (re_v 1) re_int)) (rg_tup K (by rfl) (rgs_name (i := 3) nd (by rfl) (by first | exact Or.inl rfl | exact Or.inr rfl) (rgs_name (i := 4) nd (by rfl) (by first | exact Or.inl rfl | exact Or.inr rfl) rgs_nil))) (rss_cons (rs_set (i := 5) nd rfl (by first | exact Or.inl rfl | exact Or.inr rfl) (re_fn K c_fitted hr (by rfl) (ra_cons (re_v 3) (ra_cons (re_v 4) ra_nil))))
  (rss_cons (rs_if (rt_isN (re_v 5)) (rss_one (rs_ret re_non)) rss_nil)
  (rss_one (rs_set (i := 2) nd rfl (by first | exact Or.inl rfl | exact Or.inr rfl) (re_add K (re_v 2) (re_v 5)))))))
  (rss_one (rs_ret (re_v 2)))))))⟩
abbrev s__law_deck : Stmt := top 10
abbrev N__law_deck : List Str := ["_law_script", "_law_digits", "_law_cells", "_law_cell"]
theorem sc__law_deck : FnScope N__law_deck ["_law_script"] (defScope s__law_deck) := ⟨rfl, rfl, rfl, by decide +kernel, rfl, by decide +kernel, by decide +kernel⟩
theorem fn__law_deck {a : Addr} {fd : FuncData} {sp : Spec} (F : FunD K "_law_deck" "_law_deck" (defArgs s__law_deck) (defBody s__law_deck) (defScope s__law_deck) [] [] a fd) (hm : mg "_law_deck" = some (.ref a)) (m_len : mg "len" = none) (m_abs : mg "abs" = none) (does : Does 4 (t__law_deck) 1 sp) : Fn P w K mg base (k + 1) "_law_deck" 1 sp := by
  refine ⟨a, fd, ["_law_script"], def_ok F sc__law_deck rfl (fun cdv A outer s H E hr => ?_) does, hm, F.kp, F.bindsN fun _ _ _ _ _ _ us hl => match us, hl with | [_], _ => rfl⟩
  have nd := sc__law_deck.nd
  exact ⟨_, (rss_cons (rs_set (i := 1) nd rfl (by first | exact Or.inl rfl | exact Or.inr rfl) (re_new ra_nil))
  (rss_cons (rs_set (i := 2) nd rfl (by first | exact Or.inl rfl | exact Or.inr rfl) (re_new (ra_cons (re_b1 (b_len K) PySem.boot_len (by rfl) m_len (re_v 0)) ra_nil)))
  (rss_cons (rs_for PassesOwn.never rfl (ri_seq K (re_cut K (re_v 0) ro_none (ro_some re_int))) (rg_name (i := 3) nd (by rfl) (by first | exact Or.inl rfl | exact Or.inr rfl)) (rss_cons (rs_set (i := 3) nd rfl (by first | exact Or.inl rfl | exact Or.inr rfl) (re_b1 b_abs boot_abs (by rfl) m_abs (re_v 3)))
  (rss_cons (rs_expr (re_append K (re_v 2) (re_mod (re_v 3) re_int)))
  (rss_one (rs_while PassesOwn.never (rt_w (rw_and (rt_cmp c_ge (re_v 3) (re_pow re_int re_int)) (rw_and1 (rt_cmp c_lt (re_b1 (b_len K) PySem.boot_len (by rfl) m_len (re_v 1)) re_int)))) (rss_cons (rs_expr (re_append K (re_v 1) (re_mod (re_v 3) re_int)))
  (rss_one (rs_set (i := 3) nd rfl (by first | exact Or.inl rfl | exact Or.inr rfl) (re_fdiv (re_v 3) re_int)))))))))
  (rss_one (rs_ret (re_new (ra_cons (re_v 1) (ra_cons (re_v 2) (ra_cons re_int ra_nil)))))))))⟩
abbrev s__law_next : Stmt := top 11
abbrev N__law_next : List Str := ["_law_deck_here", "_law_at", "_law_cell"]
theorem sc__law_next : FnScope N__law_next ["_law_deck_here"] (defScope s__law_next) := ⟨rfl, rfl, rfl, by decide +kernel, rfl, by decide +kernel, by decide +kernel⟩
theorem fn__law_next {a : Addr} {fd : FuncData} {sp : Spec} (F : FunD K "_law_next" "_law_next" (defArgs s__law_next) (defBody s__law_next) (defScope s__law_next) [] [] a fd) (hm : mg "_law_next" = some (.ref a)) (m_len : mg "len" = none) (does : Does 3 (t__law_next) 1 sp) : Fn P w K mg base (k + 1) "_law_next" 1 sp := by
  refine ⟨a, fd, ["_law_deck_here"], def_ok F sc__law_next rfl (fun cdv A outer s H E hr => ?_) does, hm, F.kp, F.bindsN fun _ _ _ _ _ _ us hl => match us, hl with | [_], _ => rfl⟩
  have nd := sc__law_next.nd
  exact ⟨_, (rss_cons (rs_if (rt_cmp (c_ne K hr) (re_ix K (re_v 0) re_int) (re_lst ra_nil)) (rss_one (rs_ret (re_popAt K (re_ix K (re_v 0) re_int) re_int))) rss_nil)
  (rss_cons (rs_set (i := 1) nd rfl (by first | exact Or.inl rfl | exact Or.inr rfl) (re_ix K (re_v 0) re_int))
  (rss_cons (rs_asg (re_add K (re_v 1) re_int) (rg_sub (re_v 0) re_int))
  (rss_cons (rs_set (i := 2) nd rfl (by first | exact Or.inl rfl | exact Or.inr rfl) (re_add K (re_ix K (re_ix K (re_v 0) re_int) (re_mod (re_add K (re_v 1) re_int) (re_b1 (b_len K) PySem.boot_len (by rfl) m_len (re_ix K (re_v 0) re_int)))) (re_mul re_int (re_v 1))))
  (rss_one (rs_ret (re_mod (re_add K (re_mod (re_pow (re_add K (re_v 2) (re_mul re_int (re_add K (re_v 1) re_int))) re_int) re_int) (re_mul re_int (re_v 2))) re_int)))))))⟩
abbrev s__law_same : Stmt := top 12
abbrev N__law_same : List Str := ["_law_found", "_law_due", "_law_one", "_law_other"]
theorem sc__law_same : FnScope N__law_same ["_law_found", "_law_due"] (defScope s__law_same) := ⟨rfl, rfl, rfl, by decide +kernel, rfl, by decide +kernel, by decide +kernel⟩
theorem fn__law_same {a : Addr} {fd : FuncData} {sp : Spec} (F : FunD K "_law_same" "_law_same" (defArgs s__law_same) (defBody s__law_same) (defScope s__law_same) [] [] a fd) (hm : mg "_law_same" = some (.ref a)) {sp__law_same : Spec} (c__law_same : Fn P w K mg base k "_law_same" 2 sp__law_same) (m_isinstance : mg "isinstance" = none) (m_int : mg "int" = none) (m_str : mg "str" = none) (m_bool : mg "bool" = none) (m_tuple : mg "tuple" = none) (m_zip : mg "zip" = none) (m_all : mg "all" = none) (m_len : mg "len" = none) (does : Does 4 (t__law_same sp__law_same) 2 sp) : Fn P w K mg base (k + 1) "_law_same" 2 sp := by
  refine ⟨a, fd, ["_law_found", "_law_due"], def_ok F sc__law_same rfl (fun cdv A outer s H E hr => ?_) does, hm, F.kp, F.bindsN fun _ _ _ _ _ _ us hl => match us, hl with | [_, _], _ => rfl⟩
  have nd := sc__law_same.nd
  exact ⟨_, (rss_cons (rs_if (rt_val (re_isi K (by decide +kernel) boot_tuple (by rfl) m_isinstance (by rfl) m_tuple (re_v 1))) (rss_cons (rs_if (rt_w (rw_or (rt_not (rt_val (re_isi K (by decide +kernel) boot_tuple (by rfl) m_isinstance (by rfl) m_tuple (re_v 0)))) (rw_or1 (rt_cmp (c_ne K hr) (re_b1 (b_len K) PySem.boot_len (by rfl) m_len (re_v 0)) (re_b1 (b_len K) PySem.boot_len (by rfl) m_len (re_v 1)))))) (rss_one (rs_ret re_bl)) rss_nil)
  (rss_one (rs_ret (re_b1 (b_all K (by rfl)) boot_all (by rfl) m_all (re_comp (by rfl) nd (ri_zip K (by rfl) m_zip (re_v 0) (re_v 1)) (blkOk_by (own := [("_law_one", 2), ("_law_other", 3)]) (N := N__law_same) (sc := defScope s__law_same) (by decide +kernel)) (fun _ _ _ _ _ => (rg_tup K (by rfl) (rgs_name (i := 2) nd (by rfl) (by first | exact Or.inl rfl | exact Or.inr rfl) (rgs_name (i := 3) nd (by rfl) (by first | exact Or.inl rfl | exact Or.inr rfl) rgs_nil)))) (own_tup (owns_cons (own_name (i := 2) (by decide)) (owns_cons (own_name (i := 3) (by decide)) owns_nil))) (fun _ _ _ _ _ => rts_nil) (fun _ _ _ _ _ => (re_fn K c__law_same hr (by rfl) (ra_cons (re_v 2) (ra_cons (re_v 3) ra_nil))))))))) rss_nil)
  (rss_cons (rs_if (rt_isN (re_v 1)) (rss_one (rs_ret (re_isN (re_v 0)))) rss_nil)
  (rss_cons (rs_if (rt_w (rw_or (rt_val (re_isi K (by decide +kernel) boot_bool (by rfl) m_isinstance (by rfl) m_bool (re_v 1))) (rw_or1 (rt_val (re_isi K (by decide +kernel) boot_bool (by rfl) m_isinstance (by rfl) m_bool (re_v 0)))))) (rss_one (rs_ret (re_and (re_isi K (by decide +kernel) boot_bool (by rfl) m_isinstance (by rfl) m_bool (re_v 1)) (re_and (re_isi K (by decide +kernel) boot_bool (by rfl) m_isinstance (by rfl) m_bool (re_v 0)) (re_one (re_cmp (c_eq K hr) (re_v 0) (re_v 1))))))) rss_nil)
  (rss_cons (rs_if (rt_w (rw_or (rt_val (re_isi K (by decide +kernel) boot_str (by rfl) m_isinstance (by rfl) m_str (re_v 1))) (rw_or1 (rt_val (re_isi K (by decide +kernel) boot_str (by rfl) m_isinstance (by rfl) m_str (re_v 0)))))) (rss_one (rs_ret (re_and (re_isi K (by decide +kernel) boot_str (by rfl) m_isinstance (by rfl) m_str (re_v 1)) (re_and (re_isi K (by decide +kernel) boot_str (by rfl) m_isinstance (by rfl) m_str (re_v 0)) (re_one (re_cmp (c_eq K hr) (re_v 0) (re_v 1))))))) rss_nil)
  (rss_one (rs_ret (re_and (re_isi K (by decide +kernel) boot_int (by rfl) m_isinstance (by rfl) m_int (re_v 0)) (re_one (re_cmp (c_eq K hr) (re_v 0) (re_v 1))))))))))⟩
abbrev s__law_letters : Stmt := top 13
abbrev N__law_letters : List Str := ["_law_deck_here", "_law_most", "_law_number", "_law_found", "_law_k"]
theorem sc__law_letters : FnScope N__law_letters ["_law_deck_here", "_law_most"] (defScope s__law_letters) := ⟨rfl, rfl, rfl, by decide +kernel, rfl, by decide +kernel, by decide +kernel⟩
theorem fn__law_letters {a : Addr} {fd : FuncData} {sp : Spec} (F : FunD K "_law_letters" "_law_letters" (defArgs s__law_letters) (defBody s__law_letters) (defScope s__law_letters) [] [] a fd) (hm : mg "_law_letters" = some (.ref a)) {sp__law_next : Spec} (c__law_next : Fn P w K mg base k "_law_next" 1 sp__law_next) (m_range : mg "range" = none) (does : Does 5 (t__law_letters sp__law_next) 2 sp) : Fn P w K mg base (k + 1) "_law_letters" 2 sp := by
  refine ⟨a, fd, ["_law_deck_here", "_law_most"], def_ok F sc__law_letters rfl (fun cdv A outer s H E hr => ?_) does, hm, F.kp, F.bindsN fun _ _ _ _ _ _ us hl => match us, hl with | [_, _], _ => rfl⟩
  have nd := sc__law_letters.nd
  exact ⟨_, (rss_cons (rs_set (i := 2) nd rfl (by first | exact Or.inl rfl | exact Or.inr rfl) (re_fn K c__law_next hr (by rfl) (ra_cons (re_v 0) ra_nil)))
  (rss_cons (rs_set (i := 3) nd rfl (by first | exact Or.inl rfl | exact Or.inr rfl) re_str)
  (rss_cons (rs_for PassesOwn.never rfl (ri_range (by rfl) m_range (re_add K re_int (re_mod (re_v 2) (re_v 1)))) (rg_name (i := 4) nd (by rfl) (by first | exact Or.inl rfl | exact Or.inr rfl)) (rss_one (rs_set (i := 3) nd rfl (by first | exact Or.inl rfl | exact Or.inr rfl) (re_add K (re_v 3) (re_ix K re_str (re_mod (re_fn K c__law_next hr (by rfl) (ra_cons (re_v 0) ra_nil)) re_int))))))
  (rss_one (rs_ret (re_v 3))))))⟩
abbrev s__law_name : Stmt := top 14
abbrev N__law_name : List Str := ["_law_deck_here", "_law_number", "_law_some", "_law_found"]
theorem sc__law_name : FnScope N__law_name ["_law_deck_here"] (defScope s__law_name) := ⟨rfl, rfl, rfl, by decide +kernel, rfl, by decide +kernel, by decide +kernel⟩
theorem fn__law_name {a : Addr} {fd : FuncData} {sp : Spec} (F : FunD K "_law_name" "_law_name" (defArgs s__law_name) (defBody s__law_name) (defScope s__law_name) [] [] a fd) (hm : mg "_law_name" = some (.ref a)) {sp__law_letters : Spec} (c__law_letters : Fn P w K mg base k "_law_letters" 2 sp__law_letters) {sp__law_next : Spec} (c__law_next : Fn P w K mg base k "_law_next" 1 sp__law_next) (m_int : mg "int" = none) (m_str : mg "str" = none) (does : Does 4 (t__law_name sp__law_letters sp__law_next) 1 sp) : Fn P w K mg base (k + 1) "_law_name" 1 sp := by
  refine ⟨a, fd, ["_law_deck_here"], def_ok F sc__law_name rfl (fun cdv A outer s H E hr => ?_) does, hm, F.kp, F.bindsN fun _ _ _ _ _ _ us hl => match us, hl with | [_], _ => rfl⟩
  have nd := sc__law_name.nd
  exact ⟨_, (rss_cons (rs_set (i := 1) nd rfl (by first | exact Or.inl rfl | exact Or.inr rfl) (re_fn K c__law_next hr (by rfl) (ra_cons (re_v 0) ra_nil)))
  (rss_cons (rs_set (i := 2) nd rfl (by first | exact Or.inl rfl | exact Or.inr rfl) (re_lst (ra_cons re_str (ra_cons re_str (ra_cons re_str (ra_cons re_str (ra_cons re_str (ra_cons re_str (ra_cons re_str (ra_cons re_str ra_nil))))))))))
  (rss_cons (rs_if (rt_cmp c_lt (re_mod (re_v 1) re_int) re_int) (rss_one (rs_ret (re_ix K (re_v 2) (re_mod (re_fdiv (re_v 1) re_int) re_int)))) rss_nil)
  (rss_cons (rs_if (rt_cmp (c_eq K hr) (re_mod (re_v 1) re_int) re_int) (rss_one (rs_ret (re_bT b_str boot_str (by rfl) m_str (re_add K re_int (re_mod (re_fdiv (re_v 1) re_int) re_int))))) rss_nil)
  (rss_cons (rs_set (i := 3) nd rfl (by first | exact Or.inl rfl | exact Or.inr rfl) (re_fn K c__law_letters hr (by rfl) (ra_cons (re_v 0) (ra_cons re_int ra_nil))))
  (rss_one (rs_ret (re_ix K (re_lst (ra_cons (re_v 3) (ra_cons re_str ra_nil))) (re_bT b_int boot_int (by rfl) m_int (re_cmp (c_in K) (re_v 3) (re_lst (ra_cons re_str (ra_cons re_str (ra_cons re_str (ra_cons re_str (ra_cons re_str ra_nil))))))))))))))))⟩
abbrev s__law_any : Stmt := top 15
abbrev N__law_any : List Str := ["_law_deck_here", "_law_heads", "_law_left", "_law_number", "_law_word", "_law_one", "_law_many", "_law_head", "_law_k"]
theorem sc__law_any : FnScope N__law_any ["_law_deck_here", "_law_heads", "_law_left"] (defScope s__law_any) := ⟨rfl, rfl, rfl, by decide +kernel, rfl, by decide +kernel, by decide +kernel⟩
theorem fn__law_any {a : Addr} {fd : FuncData} {sp : Spec} (F : FunD K "_law_any" "_law_any" (defArgs s__law_any) (defBody s__law_any) (defScope s__law_any) [] [] a fd) (hm : mg "_law_any" = some (.ref a)) {sp__law_any : Spec} (c__law_any : Fn P w K mg base k "_law_any" 3 sp__law_any) {sp__law_name : Spec} (c__law_name : Fn P w K mg base k "_law_name" 1 sp__law_name) {sp__law_next : Spec} (c__law_next : Fn P w K mg base k "_law_next" 1 sp__law_next) (m_range : mg "range" = none) (m_tuple : mg "tuple" = none) (m_int : mg "int" = none) (m_len : mg "len" = none) (does : Does 9 (t__law_any sp__law_any sp__law_name sp__law_next) 3 sp) : Fn P w K mg base (k + 1) "_law_any" 3 sp := by
  refine ⟨a, fd, ["_law_deck_here", "_law_heads", "_law_left"], def_ok F sc__law_any rfl (fun cdv A outer s H E hr => ?_) does, hm, F.kp, F.bindsN fun _ _ _ _ _ _ us hl => match us, hl with | [_, _, _], _ => rfl⟩
  have nd := sc__law_any.nd
  exact ⟨_, (rss_cons (rs_set (i := 3) nd rfl (by first | exact Or.inl rfl | exact Or.inr rfl) (re_fn K c__law_next hr (by rfl) (ra_cons (re_v 0) ra_nil)))
  (rss_cons (rs_set (i := 4) nd rfl (by first | exact Or.inl rfl | exact Or.inr rfl) (re_ix K (re_v 1) (re_mod (re_v 3) (re_b1 (b_len K) PySem.boot_len (by rfl) m_len (re_v 1)))))
  (rss_cons (rs_if (rt_w (rw_and (rt_cmp c_lt (re_v 2) re_int) (rw_and1 (rt_cmp (c_notIn K) (re_v 4) (re_lst (ra_cons re_str (ra_cons re_str ra_nil))))))) (rss_one (rs_set (i := 4) nd rfl (by first | exact Or.inl rfl | exact Or.inr rfl) (re_ix K (re_lst (ra_cons re_str (ra_cons re_str ra_nil))) (re_bT b_int boot_int (by rfl) m_int (re_or (re_cmp (c_notIn K) re_str (re_v 1)) (re_one (re_cmp (c_eq K hr) (re_mod (re_fdiv (re_v 3) re_int) re_int) re_int))))))) rss_nil)
  (rss_cons (rs_if (rt_cmp (c_eq K hr) (re_v 4) re_str) (rss_one (rs_ret (re_tup (ra_cons re_str ra_nil)))) rss_nil)
  (rss_cons (rs_if (rt_cmp (c_eq K hr) (re_v 4) re_str) (rss_one (rs_ret (re_tup (ra_cons re_str (ra_cons (re_fn K c__law_name hr (by rfl) (ra_cons (re_v 0) ra_nil)) ra_nil))))) rss_nil)
  (rss_cons (rs_if (rt_cmp (c_in K) (re_v 4) (re_lst (ra_cons re_str (ra_cons re_str ra_nil)))) (rss_cons (rs_set (i := 5) nd rfl (by first | exact Or.inl rfl | exact Or.inr rfl) (re_fn K c__law_any hr (by rfl) (ra_cons (re_v 0) (ra_cons (re_v 1) (ra_cons (re_sub (re_v 2) re_int) ra_nil)))))
  (rss_one (rs_ret (re_tup (ra_cons (re_v 4) (ra_cons (re_v 5) (ra_cons (re_fn K c__law_any hr (by rfl) (ra_cons (re_v 0) (ra_cons (re_v 1) (ra_cons (re_sub (re_v 2) re_int) ra_nil)))) ra_nil))))))) rss_nil)
  (rss_cons (rs_set (i := 6) nd rfl (by first | exact Or.inl rfl | exact Or.inr rfl) (re_mul (re_ix K (re_lst (ra_cons re_int (ra_cons re_int (ra_cons re_int (ra_cons re_int (ra_cons re_int (ra_cons re_int ra_nil))))))) (re_mod (re_fdiv (re_v 3) re_int) re_int)) (re_bT b_int boot_int (by rfl) m_int (re_cmp c_gt (re_v 2) re_int))))
  (rss_cons (rs_set (i := 7) nd rfl (by first | exact Or.inl rfl | exact Or.inr rfl) (re_ix K (re_lst (ra_cons re_str (ra_cons re_str (ra_cons re_str (ra_cons re_str (ra_cons re_str (ra_cons re_str (ra_cons re_str ra_nil)))))))) (re_mod (re_fdiv (re_v 3) re_int) re_int)))
  (rss_one (rs_ret (re_tup (ra_cons (re_v 4) (ra_cons (re_v 7) (ra_cons (re_bT (b_tuple K) boot_tuple (by rfl) m_tuple (re_comp (by rfl) nd (ri_range (by rfl) m_range (re_v 6)) (blkOk_by (own := [("_law_k", 8)]) (N := N__law_any) (sc := defScope s__law_any) (by decide +kernel)) (fun _ _ _ _ _ => (rg_name (i := 8) nd (by rfl) (by first | exact Or.inl rfl | exact Or.inr rfl))) (own_name (i := 8) (by decide)) (fun _ _ _ _ _ => rts_nil) (fun _ _ _ _ _ => (re_fn K c__law_any hr (by rfl) (ra_cons (re_v 0) (ra_cons (re_v 1) (ra_cons (re_sub (re_v 2) re_int) ra_nil))))))) ra_nil))))))))))))))⟩
abbrev s__law_unlike : Stmt := top 16
abbrev N__law_unlike : List Str := ["_law_pattern", "_law_many", "_law_part"]
theorem sc__law_unlike : FnScope N__law_unlike ["_law_pattern", "_law_many"] (defScope s__law_unlike) := ⟨rfl, rfl, rfl, by decide +kernel, rfl, by decide +kernel, by decide +kernel⟩
theorem fn__law_unlike {a : Addr} {fd : FuncData} {sp : Spec} (F : FunD K "_law_unlike" "_law_unlike" (defArgs s__law_unlike) (defBody s__law_unlike) (defScope s__law_unlike) [] [] a fd) (hm : mg "_law_unlike" = some (.ref a)) {sp__law_unlike : Spec} (c__law_unlike : Fn P w K mg base k "_law_unlike" 2 sp__law_unlike) (m_tuple : mg "tuple" = none) (m_len : mg "len" = none) (does : Does 3 (t__law_unlike sp__law_unlike) 2 sp) : Fn P w K mg base (k + 1) "_law_unlike" 2 sp := by
  refine ⟨a, fd, ["_law_pattern", "_law_many"], def_ok F sc__law_unlike rfl (fun cdv A outer s H E hr => ?_) does, hm, F.kp, F.bindsN fun _ _ _ _ _ _ us hl => match us, hl with | [_, _], _ => rfl⟩
  have nd := sc__law_unlike.nd
  exact ⟨_, (rss_cons (rs_if (rt_cmp (c_eq K hr) (re_ix K (re_v 0) re_int) re_str) (rss_cons (rs_expr (re_append K (re_v 1) (re_mul (re_ix K re_str (re_mod (re_mul (re_b1 (b_len K) PySem.boot_len (by rfl) m_len (re_v 1)) re_int) re_int)) (re_add K re_int (re_fdiv (re_b1 (b_len K) PySem.boot_len (by rfl) m_len (re_v 1)) re_int)))))
  (rss_one (rs_ret (re_tup (ra_cons re_str (ra_cons (re_ix K (re_v 1) (re_neg re_int)) ra_nil)))))) rss_nil)
  (rss_one (rs_ret (re_tup (ra_cons re_str (ra_cons (re_ix K (re_v 0) re_int) (ra_cons (re_bT (b_tuple K) boot_tuple (by rfl) m_tuple (re_comp (by rfl) nd (ri_seq K (re_ix K (re_v 0) re_int)) (blkOk_by (own := [("_law_part", 2)]) (N := N__law_unlike) (sc := defScope s__law_unlike) (by decide +kernel)) (fun _ _ _ _ _ => (rg_name (i := 2) nd (by rfl) (by first | exact Or.inl rfl | exact Or.inr rfl))) (own_name (i := 2) (by decide)) (fun _ _ _ _ _ => rts_nil) (fun _ _ _ _ _ => (re_fn K c__law_unlike hr (by rfl) (ra_cons (re_v 2) (ra_cons (re_v 1) ra_nil)))))) ra_nil)))))))⟩
abbrev s__law_parted : Stmt := top 17
abbrev N__law_parted : List Str := ["_law_pattern", "_law_thing", "_law_there", "_law_path", "_law_node", "_law_other"]
theorem sc__law_parted : FnScope N__law_parted ["_law_pattern", "_law_thing"] (defScope s__law_parted) := ⟨rfl, rfl, rfl, by decide +kernel, rfl, by decide +kernel, by decide +kernel⟩
theorem fn__law_parted {a : Addr} {fd : FuncData} {sp : Spec} (F : FunD K "_law_parted" "_law_parted" (defArgs s__law_parted) (defBody s__law_parted) (defScope s__law_parted) [] [] a fd) (hm : mg "_law_parted" = some (.ref a)) {sp_nodes_of : Spec} (c_nodes_of : Fn P w K mg base k "nodes_of" 1 sp_nodes_of) (m_len : mg "len" = none) (m_dict : mg "dict" = none) (nt : NoTup K) (does : Does 6 (t__law_parted sp_nodes_of) 2 sp) : Fn P w K mg base (k + 1) "_law_parted" 2 sp := by
  refine ⟨a, fd, ["_law_pattern", "_law_thing"], def_ok F sc__law_parted rfl (fun cdv A outer s H E hr => ?_) does, hm, F.kp, F.bindsN fun _ _ _ _ _ _ us hl => match us, hl with | [_, _], _ => rfl⟩
  have nd := sc__law_parted.nd
  exact ⟨_, (rss_cons (rs_set (i := 2) nd rfl (by first | exact Or.inl rfl | exact Or.inr rfl) (re_bT (b_dictP K nt (by rfl) hr) boot_dict (by rfl) m_dict (re_fn K c_nodes_of hr (by rfl) (ra_cons (re_v 1) ra_nil))))
  (rss_cons (rs_for PassesOwn.never rfl (ri_seqP K (re_fn K c_nodes_of hr (by rfl) (ra_cons (re_v 0) ra_nil))) (rg_tup K (by rfl) (rgs_name (i := 3) nd (by rfl) (by first | exact Or.inl rfl | exact Or.inr rfl) (rgs_name (i := 4) nd (by rfl) (by first | exact Or.inl rfl | exact Or.inr rfl) rgs_nil))) (rss_one (rs_if (rt_cmp (c_eq K hr) (re_ix K (re_v 4) re_int) re_str) (rss_cons (rs_set (i := 5) nd rfl (by first | exact Or.inl rfl | exact Or.inr rfl) (re_getT nt hr (re_v 2) (re_v 3) (re_tup (ra_cons re_str ra_nil))))
  (rss_one (rs_if (rt_w (rw_or (rt_cmp (c_ne K hr) (re_ix K (re_v 5) re_int) re_str) (rw_or (rt_cmp (c_ne K hr) (re_ix K (re_v 5) re_int) (re_ix K (re_v 4) re_int)) (rw_or1 (rt_cmp (c_ne K hr) (re_b1 (b_len K) PySem.boot_len (by rfl) m_len (re_ix K (re_v 5) re_int)) (re_b1 (b_len K) PySem.boot_len (by rfl) m_len (re_ix K (re_v 4) re_int))))))) (rss_one (rs_ret re_bl)) rss_nil))) rss_nil)))
  (rss_one (rs_ret re_bl))))⟩
abbrev s__law_right : Stmt := top 18
abbrev N__law_right : List Str := ["_law_pattern", "_law_thing", "_law_fills", "_law_name_here", "_law_one"]
theorem sc__law_right : FnScope N__law_right ["_law_pattern", "_law_thing"] (defScope s__law_right) := ⟨rfl, rfl, rfl, by decide +kernel, rfl, by decide +kernel, by decide +kernel⟩
theorem fn__law_right {a : Addr} {fd : FuncData} {sp : Spec} (F : FunD K "_law_right" "_law_right" (defArgs s__law_right) (defBody s__law_right) (defScope s__law_right) [] [] a fd) (hm : mg "_law_right" = some (.ref a)) {sp__law_parted : Spec} (c__law_parted : Fn P w K mg base k "_law_parted" 2 sp__law_parted) {sp__law_same : Spec} (c__law_same : Fn P w K mg base k "_law_same" 2 sp__law_same) {sp_filled : Spec} (c_filled : Fn P w K mg base k "filled" 2 sp_filled) {sp_names_of : Spec} (c_names_of : Fn P w K mg base k "names_of" 1 sp_names_of) {sp_fitted : Spec} (c_fitted : Fn P w K mg base k "fitted" 2 sp_fitted) (m_tuple : mg "tuple" = none) (m_isinstance : mg "isinstance" = none) (does : Does 5 (t__law_right sp__law_parted sp__law_same sp_filled sp_names_of sp_fitted) 2 sp) : Fn P w K mg base (k + 1) "_law_right" 2 sp := by
  refine ⟨a, fd, ["_law_pattern", "_law_thing"], def_ok F sc__law_right rfl (fun cdv A outer s H E hr => ?_) does, hm, F.kp, F.bindsN fun _ _ _ _ _ _ us hl => match us, hl with | [_, _], _ => rfl⟩
  have nd := sc__law_right.nd
  exact ⟨_, (rss_cons (rs_set (i := 2) nd rfl (by first | exact Or.inl rfl | exact Or.inr rfl) (re_fn K c_fitted hr (by rfl) (ra_cons (re_v 0) (ra_cons (re_v 1) ra_nil))))
  (rss_cons (rs_if (rt_isN (re_v 2)) (rss_one (rs_ret (re_fn K c__law_parted hr (by rfl) (ra_cons (re_v 0) (ra_cons (re_v 1) ra_nil))))) rss_nil)
  (rss_cons (rs_if (rt_not (rt_val (re_isi K (by decide +kernel) boot_tuple (by rfl) m_isinstance (by rfl) m_tuple (re_v 2)))) (rss_one (rs_ret re_bl)) rss_nil)
  (rss_cons (rs_if (rt_not (rt_val (re_fn K c__law_same hr (by rfl) (ra_cons (re_bT (b_tuple K) boot_tuple (by rfl) m_tuple (re_comp (by rfl) nd (ri_seq K (re_v 2)) (blkOk_by (own := [("_law_name_here", 3), ("_law_one", 4)]) (N := N__law_right) (sc := defScope s__law_right) (by decide +kernel)) (fun _ _ _ _ _ => (rg_tup K (by rfl) (rgs_name (i := 3) nd (by rfl) (by first | exact Or.inl rfl | exact Or.inr rfl) (rgs_name (i := 4) nd (by rfl) (by first | exact Or.inl rfl | exact Or.inr rfl) rgs_nil)))) (own_tup (owns_cons (own_name (i := 3) (by decide)) (owns_cons (own_name (i := 4) (by decide)) owns_nil))) (fun _ _ _ _ _ => rts_nil) (fun _ _ _ _ _ => (re_v 3)))) (ra_cons (re_fn K c_names_of hr (by rfl) (ra_cons (re_v 0) ra_nil)) ra_nil))))) (rss_one (rs_ret re_bl)) rss_nil)
  (rss_one (rs_ret (re_and (re_not (re_fn K c__law_parted hr (by rfl) (ra_cons (re_v 0) (ra_cons (re_v 1) ra_nil)))) (re_one (re_fn K c__law_same hr (by rfl) (ra_cons (re_fn K c_filled hr (by rfl) (ra_cons (re_v 0) (ra_cons (re_v 2) ra_nil))) (ra_cons (re_v 1) ra_nil)))))))))))⟩
abbrev s_law : Stmt := top 19
abbrev N_law : List Str := ["_law_script", "_law_deck_here", "_law_turn", "_law_number", "_law_pattern", "_law_fills", "_law_name_here", "_law_thing", "_law_other", "_law_second"]
theorem sc_law : FnScope N_law ["_law_script"] (defScope s_law) := ⟨rfl, rfl, rfl, by decide +kernel, rfl, by decide +kernel, by decide +kernel⟩
theorem fn_law {a : Addr} {fd : FuncData} {sp : Spec} (F : FunD K "law" "law" (defArgs s_law) (defBody s_law) (defScope s_law) [] [] a fd) (hm : mg "law" = some (.ref a)) {sp__law_right : Spec} (c__law_right : Fn P w K mg base k "_law_right" 2 sp__law_right) {sp__law_unlike : Spec} (c__law_unlike : Fn P w K mg base k "_law_unlike" 2 sp__law_unlike) {sp__law_any : Spec} (c__law_any : Fn P w K mg base k "_law_any" 3 sp__law_any) {sp__law_same : Spec} (c__law_same : Fn P w K mg base k "_law_same" 2 sp__law_same) {sp_fitted : Spec} (c_fitted : Fn P w K mg base k "fitted" 2 sp_fitted) {sp_filled : Spec} (c_filled : Fn P w K mg base k "filled" 2 sp_filled) {sp_names_of : Spec} (c_names_of : Fn P w K mg base k "names_of" 1 sp_names_of) {sp__law_next : Spec} (c__law_next : Fn P w K mg base k "_law_next" 1 sp__law_next) {sp__law_deck : Spec} (c__law_deck : Fn P w K mg base k "_law_deck" 1 sp__law_deck) (m_range : mg "range" = none) (m_tuple : mg "tuple" = none) (does : Does 10 (t_law sp__law_right sp__law_unlike sp__law_any sp__law_same sp_fitted sp_filled sp_names_of sp__law_next sp__law_deck) 1 sp) : FnOk P w K mg base CX0 (k + 1) a fd ["_law_script"] (toSp K 1 sp) := by
  refine def_ok F sc_law rfl (fun cdv A outer s H E hr => ?_) does
  have nd := sc_law.nd
  exact ⟨_, (rss_cons (rs_set (i := 1) nd rfl (by first | exact Or.inl rfl | exact Or.inr rfl) (re_fn K c__law_deck hr (by rfl) (ra_cons (re_v 0) ra_nil)))
  (rss_cons (rs_for PassesOwn.never rfl (ri_range (by rfl) m_range re_int) (rg_name (i := 2) nd (by rfl) (by first | exact Or.inl rfl | exact Or.inr rfl)) (rss_cons (rs_set (i := 3) nd rfl (by first | exact Or.inl rfl | exact Or.inr rfl) (re_fn K c__law_next hr (by rfl) (ra_cons (re_v 1) ra_nil)))
  (rss_cons (rs_set (i := 4) nd rfl (by first | exact Or.inl rfl | exact Or.inr rfl) (re_fn K c__law_unlike hr (by rfl) (ra_cons (re_fn K c__law_any hr (by rfl) (ra_cons (re_v 1) (ra_cons (re_lst (ra_cons re_str (ra_cons re_str (ra_cons re_str ra_nil)))) (ra_cons (re_add K re_int (re_mod (re_v 3) re_int)) ra_nil)))) (ra_cons (re_new ra_nil) ra_nil))))
  (rss_cons (rs_set (i := 5) nd rfl (by first | exact Or.inl rfl | exact Or.inr rfl) (re_new ra_nil))
  (rss_cons (rs_for PassesOwn.never rfl (ri_seq K (re_fn K c_names_of hr (by rfl) (ra_cons (re_v 4) ra_nil))) (rg_name (i := 6) nd (by rfl) (by first | exact Or.inl rfl | exact Or.inr rfl)) (rss_one (rs_expr (re_append K (re_v 5) (re_tup (ra_cons (re_v 6) (ra_cons (re_fn K c__law_any hr (by rfl) (ra_cons (re_v 1) (ra_cons (re_lst (ra_cons re_str (ra_cons re_str (ra_cons re_str ra_nil)))) (ra_cons (re_add K re_int (re_mod (re_fn K c__law_next hr (by rfl) (ra_cons (re_v 1) ra_nil)) re_int)) ra_nil)))) ra_nil)))))))
  (rss_cons (rs_set (i := 7) nd rfl (by first | exact Or.inl rfl | exact Or.inr rfl) (re_fn K c_filled hr (by rfl) (ra_cons (re_v 4) (ra_cons (re_bT (b_tuple K) boot_tuple (by rfl) m_tuple (re_v 5)) ra_nil))))
  (rss_cons (rs_if (rt_not (rt_val (re_fn K c__law_same hr (by rfl) (ra_cons (re_fn K c_fitted hr (by rfl) (ra_cons (re_v 4) (ra_cons (re_v 7) ra_nil))) (ra_cons (re_bT (b_tuple K) boot_tuple (by rfl) m_tuple (re_v 5)) ra_nil))))) (rss_one (rs_ret re_bl)) rss_nil)
  (rss_cons (rs_set (i := 8) nd rfl (by first | exact Or.inl rfl | exact Or.inr rfl) (re_fn K c__law_any hr (by rfl) (ra_cons (re_v 1) (ra_cons (re_lst (ra_cons re_str (ra_cons re_str (ra_cons re_str ra_nil)))) (ra_cons (re_add K re_int (re_mod (re_fdiv (re_v 3) re_int) re_int)) ra_nil)))))
  (rss_cons (rs_if (rt_w (rw_or (rt_not (rt_val (re_fn K c__law_right hr (by rfl) (ra_cons (re_v 4) (ra_cons (re_v 7) ra_nil))))) (rw_or1 (rt_not (rt_val (re_fn K c__law_right hr (by rfl) (ra_cons (re_v 4) (ra_cons (re_v 8) ra_nil)))))))) (rss_one (rs_ret re_bl)) rss_nil)
  (rss_cons (rs_set (i := 9) nd rfl (by first | exact Or.inl rfl | exact Or.inr rfl) (re_fn K c__law_unlike hr (by rfl) (ra_cons (re_fn K c__law_any hr (by rfl) (ra_cons (re_v 1) (ra_cons (re_lst (ra_cons re_str (ra_cons re_str ra_nil))) (ra_cons (re_add K re_int (re_mod (re_fdiv (re_v 3) re_int) re_int)) ra_nil)))) (ra_cons (re_new ra_nil) ra_nil))))
  (rss_one (rs_if (rt_w (rw_or (rt_not (rt_val (re_fn K c__law_right hr (by rfl) (ra_cons (re_v 9) (ra_cons (re_v 7) ra_nil))))) (rw_or1 (rt_not (rt_val (re_fn K c__law_right hr (by rfl) (ra_cons (re_v 4) (ra_cons (re_v 4) ra_nil)))))))) (rss_one (rs_ret re_bl)) rss_nil))))))))))))
  (rss_one (rs_ret re_bl))))⟩
end
section
variable {K : Fg} {H : Hp} {M : Mem}
theorem reps_ints : ∀ ns : List Int, Reps K H M (intsD ns) (ns.map V.int)
  | [] => rfl
  | n :: r => ⟨.int n, r.map V.int, rfl, rfl, reps_ints r⟩
theorem ints_reps : ∀ (ns : List Int) {vs : List V}, Reps K H M (intsD ns) vs → vs = ns.map V.int
  | [], _, h => h
  | n :: r, _, ⟨v, t, e, h, q⟩ => by
    rw [e, ints_reps r q, show v = .int n from h]
    rfl
end
/-! ### decks of kind nought: told as such -/
section
variable {K : Fg} {H : Hp} {M M' : Mem} {dk dg cl : Addr} {n : Int} {ds cs : List Int}
/-- M' tells the deck's three lists as a deck -/
structure Told (M M' : Mem) (dk dg cl : Addr) (b : Nat) : Prop where
  t0 : M' dk = some (.deck 0 b)
  t1 : M' dg = some (.part dk)
  t2 : M' cl = some (.part dk)
  ot : ∀ a, a ≠ dk → a ≠ dg → a ≠ cl → M' a = M a
theorem Told.dom {b : Nat} (t : Told M M' dk dg cl b) (A : DeckAt M dk dg cl n ds cs) {a : Addr} : M a = none ↔ M' a = none := by
  by_cases h0 : a = dk
  · subst h0; rw [A.at0, t.t0]; exact ⟨(fun h => nomatch h), (fun h => nomatch h)⟩
  by_cases h1 : a = dg
  · subst h1; rw [A.at1, t.t1]; exact ⟨(fun h => nomatch h), (fun h => nomatch h)⟩
  by_cases h2 : a = cl
  · subst h2; rw [A.at2, t.t2]; exact ⟨(fun h => nomatch h), (fun h => nomatch h)⟩
  · rw [t.ot a h0 h1 h2]
theorem deck_close {b : Nat} (m : MRep K H M) (A : DeckAt M dk dg cl n ds cs) (t : Told M M' dk dg cl b) (hn : n + b ≤ 2 ^ 40) : MRep K H M' := by
  have f : Fr H M H M' := fun a o h e => ⟨h, (t.dom A).mp e⟩
  refine ⟨fun a o e => ?_, m.prv_step f⟩
  obtain ⟨vd, hd, rd⟩ := m.obj dk _ A.at0
  obtain ⟨vg, hg, rg⟩ := m.obj dg _ A.at1
  obtain ⟨vc, hc, rc⟩ := m.obj cl _ A.at2
  by_cases h0 : a = dk
  · subst h0
    rw [t.t0] at e
    cases e
    obtain ⟨v1, r1, rfl, e1, v2, r2, rfl, e2, v3, r3, rfl, e3, e4⟩ := rd
    cases e1; cases e2; cases e3; cases e4
    rw [ints_reps ds rg] at hg
    rw [ints_reps cs rc] at hc
    refine ⟨[dg, cl], [], fun p hp => ?_, (fun f hf => by simp at hf), dg, cl, n, ds, cs, rfl, A.ne1, hd, by simp [hg, hc], A.s1, A.s2, A.nn, A.n0, hn⟩
    simp only [List.mem_cons, List.not_mem_nil, or_false] at hp
    rcases hp with rfl | rfl
    · exact ⟨t.t1, A.ne2⟩
    · exact ⟨t.t2, A.ne3⟩
  by_cases h1 : a = dg
  · subst h1
    rw [t.t1] at e
    cases e
    exact ⟨_, hg⟩
  by_cases h2 : a = cl
  · subst h2
    rw [t.t2] at e
    cases e
    exact ⟨_, hc⟩
  rw [t.ot a h0 h1 h2] at e
  have q := m.obj a o e
  cases o with
  | lst ds => obtain ⟨vs, e, r⟩ := q; exact ⟨vs, e, r.mono f⟩
  | dK ks ds => obtain ⟨vs, e, z, r⟩ := q; exact ⟨vs, e, z, r.mono f⟩
  | dT ks ds => obtain ⟨vs, e, z, r⟩ := q; exact ⟨vs, e, z, r.mono f⟩
  | ins C ns ds => obtain ⟨dx, vs, e, z, r⟩ := q; exact ⟨dx, vs, e, z, r.mono f⟩
  | tupP ds => obtain ⟨vs, o, e, z, r⟩ := q; exact ⟨vs, o, e, z, r.mono f⟩
  | deck k b =>
    refine DeckRep.keep (M' := M') q (fun x u _ e => e) (fun x _ e => e) (fun x w => ?_) (fun x o e m p => ⟨e, (f x o e m).2, p⟩)
    have x0 : x ≠ dk := fun z => by rw [z, A.at0] at w; cases w
    have x1 : x ≠ dg := fun z => by rw [z, A.at1] at w; cases w
    have x2 : x ≠ cl := fun z => by rw [z, A.at2] at w; cases w
    rw [t.ot x x0 x1 x2]
    exact w
  | part c => exact q
theorem deck_open {b : Nat} (m : MRep K H M) (h : M dk = some (.deck 0 b)) : ∃ (dg cl : Addr) (n : Int) (ds cs : List Int) (Mo : Mem), DeckAt Mo dk dg cl n ds cs ∧ Told Mo M dk dg cl b ∧ n + b ≤ 2 ^ 40 ∧ MRep K H Mo ∧ Mo = mset (mset (mset M dk (.lst [.ref dg, .ref cl, .int n])) dg (.lst (intsD ds))) cl (.lst (intsD cs)) := by
  obtain ⟨ps, fs, hp, hf, dg, cl, n, ds, cs, rfl, ne1, ho, hos, s1, s2, nn, n0, hn⟩ := m.obj dk _ h
  obtain ⟨p1, ne2⟩ := hp dg (by simp)
  obtain ⟨p2, ne3⟩ := hp cl (by simp)
  simp only [List.map_cons, List.map_nil, List.cons.injEq, and_true] at hos
  have A : DeckAt (mset (mset (mset M dk (.lst [.ref dg, .ref cl, .int n])) dg (.lst (intsD ds))) cl (.lst (intsD cs))) dk dg cl n ds cs :=
    ⟨ne1, ne2, ne3, by rw [mset_ne (Ne.symm ne3), mset_ne (Ne.symm ne2), mset_same], by rw [mset_ne ne1, mset_same], mset_same _ _ _, s1, s2, nn, n0⟩
  have T : Told (mset (mset (mset M dk (.lst [.ref dg, .ref cl, .int n])) dg (.lst (intsD ds))) cl (.lst (intsD cs))) M dk dg cl b :=
    ⟨h, p1, p2, fun a h0 h1 h2 => by rw [mset_ne h2, mset_ne h1, mset_ne h0]⟩
  refine ⟨dg, cl, n, ds, cs, _, A, T, hn, ?_, rfl⟩
  generalize mset (mset (mset M dk (.lst [.ref dg, .ref cl, .int n])) dg (.lst (intsD ds))) cl (.lst (intsD cs)) = Mo at A T
  have f : Fr H M H Mo := fun a o h e => ⟨h, (T.dom A).mpr e⟩
  refine ⟨fun a o e => ?_, m.prv_step f⟩
  by_cases h0 : a = dk
  · subst h0
    rw [A.at0] at e
    cases e
    exact ⟨_, ho, _, _, rfl, rfl, _, _, rfl, rfl, _, _, rfl, rfl, rfl⟩
  by_cases h1 : a = dg
  · subst h1
    rw [A.at1] at e
    cases e
    exact ⟨_, hos.1, reps_ints ds⟩
  by_cases h2 : a = cl
  · subst h2
    rw [A.at2] at e
    cases e
    exact ⟨_, hos.2, reps_ints cs⟩
  rw [← T.ot a h0 h1 h2] at e
  have q := m.obj a o e
  cases o with
  | lst ds => obtain ⟨vs, e, r⟩ := q; exact ⟨vs, e, r.mono f⟩
  | dK ks ds => obtain ⟨vs, e, z, r⟩ := q; exact ⟨vs, e, z, r.mono f⟩
  | dT ks ds => obtain ⟨vs, e, z, r⟩ := q; exact ⟨vs, e, z, r.mono f⟩
  | ins C ns ds => obtain ⟨dx, vs, e, z, r⟩ := q; exact ⟨dx, vs, e, z, r.mono f⟩
  | tupP ds => obtain ⟨vs, o, e, z, r⟩ := q; exact ⟨vs, o, e, z, r.mono f⟩
  | deck k b =>
    refine DeckRep.keep (M' := Mo) q (fun x u _ e => e) (fun x _ e => e) (fun x w => ?_) (fun x o e m p => ⟨e, (f x o e m).2, p⟩)
    have x0 : x ≠ dk := fun z => by rw [z, T.t0] at w; cases w
    have x1 : x ≠ dg := fun z => by rw [z, T.t1] at w; cases w; exact h0 rfl
    have x2 : x ≠ cl := fun z => by rw [z, T.t2] at w; cases w; exact h0 rfl
    rw [← T.ot x x0 x1 x2]
    exact w
  | part c => exact q
end
section
variable {P : Program} {w : World} {K : PySem.W.Frag} {mg : Str → Option Value} {base : Heap} {k : Nat}
theorem fn_next_told {x : Str} (c : Fn P w K mg base k x 1 sp_nextC) : Fn P w K mg base k x 1 (sp_next 0 2147483629) := by
  obtain ⟨f, fd, ps, h, h2⟩ := c
  refine ⟨f, fd, ps, h.imp ?_, h2⟩
  rintro vs H Q E ⟨P', as, M, r, e, m, ⟨dk, b, rfl, hM, hb⟩, hpost⟩
  obtain ⟨dg, cl, n, ds, cs, Mo, A, T, hn, mo, eo⟩ := deck_open m hM
  refine ⟨P', [.ref dk], Mo, r, e, mo, ⟨dk, dg, cl, n, ds, cs, rfl, A, by omega⟩, ?_⟩
  intro d M' p v H' fr rd md
  obtain ⟨y, n', ds', rfl, y0, y1, rfl, n0, n1, sd⟩ := p dk dg cl n ds cs rfl A
  have A' : DeckAt (mset (mset Mo dk (.lst [.ref dg, .ref cl, .int n'])) dg (.lst (intsD ds'))) dk dg cl n' ds' cs :=
    ⟨A.ne1, A.ne2, A.ne3, by rw [mset_ne (Ne.symm A.ne2), mset_same], mset_same _ _ _, by rw [mset_ne (Ne.symm A.ne1), mset_ne A.ne3]; exact A.at2, sd, A.s2, A.nn, n0⟩
  have T' : Told (mset (mset Mo dk (.lst [.ref dg, .ref cl, .int n'])) dg (.lst (intsD ds'))) (mset M dk (.deck 0 (b - 1))) dk dg cl (b - 1) :=
    ⟨mset_same _ _ _, by rw [mset_ne A.ne2]; exact T.t1, by rw [mset_ne A.ne3]; exact T.t2, fun a h0 h1 h2 => by rw [mset_ne h0, mset_ne h1, mset_ne h0]; exact T.ot a h0 h1 h2⟩
  refine hpost (.int y) (mset M dk (.deck 0 (b - 1))) ?_ v H' ?_ rd (deck_close md A' T' (by omega))
  · intro dk2 b2 e2 hM2
    simp only [List.cons.injEq, D.ref.injEq, and_true] at e2
    subst e2
    rw [hM] at hM2
    cases hM2
    exact ⟨y, rfl, y0, y1, b - 1, rfl, by omega⟩
  · intro a o ha hm
    have := fr a o ha ((T.dom A).mpr hm)
    exact ⟨this.1, (T'.dom A').mp this.2⟩
theorem fn_deck_told {x : Str} (c : Fn P w K mg base k x 1 sp_deckC) : Fn P w K mg base k x 1 (sp_deck 0 1000000) := by
  obtain ⟨f, fd, ps, h, h2⟩ := c
  refine ⟨f, fd, ps, h.imp ?_, h2⟩
  rintro vs H Q E ⟨P', as, M, r, e, m, hp, hpost⟩
  refine ⟨P', as, M, r, e, m, hp, ?_⟩
  obtain ⟨ns, rfl, hns, rfl⟩ := hp
  rintro d M' ⟨dk, dg, cl, ds, cs, rfl, A, hno⟩ v H' fr rd md
  have T : Told M' (mset (mset (mset M' dg (.part dk)) cl (.part dk)) dk (.deck 0 1000000)) dk dg cl 1000000 :=
    ⟨mset_same _ _ _, by rw [mset_ne A.ne2, mset_ne A.ne1, mset_same], by rw [mset_ne A.ne3, mset_same], fun a h0 h1 h2 => by rw [mset_ne h0, mset_ne h2, mset_ne h1]⟩
  refine hpost (.ref dk) _ ⟨dk, rfl, T.t0⟩ v H' (fun a o ha hm => ?_) rd (deck_close md A T (by decide))
  have := fr a o ha rfl
  exact ⟨this.1, (T.dom A).mp this.2⟩
/-- nothing is promised -/
theorem Fn.none {n : Nat} {sp sp' : Spec} {x : Str} (c : Fn P w K mg base k x n sp) (h : ∀ ds M, ¬ sp'.pre ds M) : Fn P w K mg base k x n sp' := by
  obtain ⟨f, fd, ps, h1, h2⟩ := c
  exact ⟨f, fd, ps, spec_imp h1 fun ds M q => (h ds M q).elim, h2⟩
end
/-! ### the chain's ends -/
theorem fn_zero {P : Program} {w : World} {K : PySem.W.Frag} {mg : Str → Option Value} {base : Heap} {k n : Nat} {x qual : Str} {params : Arguments} {body : List Stmt} {scope : Scope} {a : Addr} {fd : FuncData} {ps : List Str} {sp : Spec}
    (F : FunD K x qual params body scope [] [] a fd) (hm : mg x = some (.ref a)) (hb : Binds K fd ps []) (h : ∀ ds M, ¬ sp.pre ds M) : Fn P w K mg base k x n sp :=
  ⟨a, fd, ps, ⟨fun vs H Q E q => by obtain ⟨_, ds, M, _, _, _, q, _⟩ := q; exact (h ds M q).elim, fun A outer s H args us vs Q E _ _ _ _ q => by obtain ⟨_, ds, M, _, _, _, q, _⟩ := q; exact (h ds M q).elim⟩, hm, F.kp, hb⟩
theorem reps_map_ints {K : Fg} {H : Hp} {M : Mem} : ∀ ns : List Int, Reps K H M (ns.map D.int) (ns.map V.int)
  | [] => rfl
  | n :: r => ⟨.int n, r.map V.int, rfl, rfl, reps_map_ints r⟩
theorem law_start {K : PySem.W.Frag} {H : Hp} {a : Addr} {ns : List Int} (hl : ns.length ≤ 63) (hS : SqL K H a (ns.map V.int)) : toSp K 1 sp_law [.ref a] H (fun v _ => v = .bl true) fun _ _ _ => False := by
  refine ⟨fun _ => False, [.rol (ns.map D.int)], fun _ => none, ⟨.ref a, [], rfl, ⟨a, ns.map V.int, rfl, ?_, reps_map_ints ns⟩, rfl⟩, rfl, ⟨fun _ _ e => (by cases e), fun _ q => False.elim q⟩, ⟨ns, rfl, hl, rfl⟩, ?_⟩
  · rcases hS with h | h
    · exact .inl ⟨h, rfl, fun z => False.elim z⟩
    · exact .inr h
  · intro d M' e v H' _ r _
    rw [show d = .bl true from e] at r
    exact r
/-! ### a part of the heap without rows -/
def isRow (o : Obj) : Bool := match o.cls with
  | .type c => decide (c = "tuple")
  | _ => false
def frN (g : Addr → Option Obj) (as : List Addr) : PySem.W.Frag := (He.frG g as).filter fun q => !isRow q.2
theorem lk_mem {a : Addr} {o : Obj} : ∀ {l : List (Addr × Obj)}, l.lookup a = some o → (a, o) ∈ l
  | [], h => by cases h
  | (b, u) :: r, h => by
    rw [List.lookup_cons] at h
    cases q : (a == b) with
    | true =>
      rw [q] at h
      have e : u = o := Option.some.inj h
      rw [beq_iff_eq.mp q, e]
      exact List.mem_cons_self
    | false =>
      rw [q] at h
      exact List.mem_cons_of_mem _ (lk_mem h)
theorem frN_mem {g : Addr → Option Obj} {as : List Addr} {a : Addr} {o : Obj} (h : (frN g as).lookup a = some o) : g a = some o ∧ isRow o = false := by
  obtain ⟨h1, h2⟩ := List.mem_filter.mp (lk_mem h)
  refine ⟨?_, by simpa using h2⟩
  unfold He.frG at h1
  obtain ⟨b, _, e⟩ := List.mem_filterMap.mp h1
  cases hb : g b with
  | none => rw [hb] at e; cases e
  | some u =>
    rw [hb] at e
    simp only [Option.map_some, Option.some.injEq, Prod.mk.injEq] at e
    rw [← e.1, ← e.2]
    exact hb
theorem frN_in {as : List Addr} {h : Heap} : (frN h.get? as).In h := fun _ _ e => (frN_mem e).1
theorem frN_nt {g : Addr → Option Obj} {as : List Addr} : NoTup (frN g as) := fun a o e c => by
  have := (frN_mem e).2
  unfold isRow at this
  rw [c] at this
  simp at this
abbrev AlE : Type := He.AlD
def obsE (n : Nat) (fa : List He.Fa) (fn : List He.DefD) (gs : List (Str × D)) (g : Addr → Option Obj) : AlE := He.obsD fa fn (frN g (He.asD g n))
structure SaysE (fa : List He.Fa) (fn : List He.DefD) (gs : List (Str × D)) (K : PySem.W.Frag) : Prop where
  d : He.SaysD fa fn K
  nt : NoTup K
def hookE (n : Nat) (fa : List He.Fa) (fn : List He.DefD) (gs : List (Str × D)) : PySem.W.Hook where
  α := AlE
  obs := fun s => obsE n fa fn gs s.heap.get?
  val := fun _ => He.valD fn
  says := fun _ h => ∃ K : PySem.W.Frag, K.In h ∧ SaysE fa fn gs K
  of := fun _ h e => ⟨_, frN_in, ⟨e, frN_nt⟩⟩
  keeps := fun _ _ _ ⟨K, hK, c⟩ k => ⟨K, PySem.W.Frag.In.keeps hK k, c⟩
theorem obsE_eq {n : Nat} {fa : List He.Fa} {fn : List He.DefD} {gs : List (Str × D)} {g : Addr → Option Obj} {s : Shared} (h : ∀ a, g a = s.heap.get? a) : obsE n fa fn gs g = (hookE n fa fn gs).obs s := by
  have e : g = s.heap.get? := funext h
  rw [e] <;> rfl
abbrev sc_add_nodes_ps : List Str := ["found", "path", "saying"]
abbrev sc_filled_by_ps : List Str := ["saying", "table"]
abbrev sc_fitted_ps : List Str := ["pattern", "thing"]
abbrev sc__law_same_ps : List Str := ["_law_found", "_law_due"]
abbrev sc__law_any_ps : List Str := ["_law_deck_here", "_law_heads", "_law_left"]
abbrev sc__law_unlike_ps : List Str := ["_law_pattern", "_law_many"]
theorem chain {P : Program} {w : World} {K : PySem.W.Frag} {mg : Str → Option Value} {base : Heap} {a_parts_of : Addr} {fd_parts_of : FuncData} (F_parts_of : FunD K "parts_of" "parts_of" (defArgs s_parts_of) (defBody s_parts_of) (defScope s_parts_of) [] [] a_parts_of fd_parts_of) (g_parts_of : mg "parts_of" = some (.ref a_parts_of)) {a_rebuilt : Addr} {fd_rebuilt : FuncData} (F_rebuilt : FunD K "rebuilt" "rebuilt" (defArgs s_rebuilt) (defBody s_rebuilt) (defScope s_rebuilt) [] [] a_rebuilt fd_rebuilt) (g_rebuilt : mg "rebuilt" = some (.ref a_rebuilt)) {a_add_nodes : Addr} {fd_add_nodes : FuncData} (F_add_nodes : FunD K "add_nodes" "add_nodes" (defArgs s_add_nodes) (defBody s_add_nodes) (defScope s_add_nodes) [] [] a_add_nodes fd_add_nodes) (g_add_nodes : mg "add_nodes" = some (.ref a_add_nodes)) {a_nodes_of : Addr} {fd_nodes_of : FuncData} (F_nodes_of : FunD K "nodes_of" "nodes_of" (defArgs s_nodes_of) (defBody s_nodes_of) (defScope s_nodes_of) [] [] a_nodes_of fd_nodes_of) (g_nodes_of : mg "nodes_of" = some (.ref a_nodes_of)) {a_names_of : Addr} {fd_names_of : FuncData} (F_names_of : FunD K "names_of" "names_of" (defArgs s_names_of) (defBody s_names_of) (defScope s_names_of) [] [] a_names_of fd_names_of) (g_names_of : mg "names_of" = some (.ref a_names_of)) {a_filled_by : Addr} {fd_filled_by : FuncData} (F_filled_by : FunD K "filled_by" "filled_by" (defArgs s_filled_by) (defBody s_filled_by) (defScope s_filled_by) [] [] a_filled_by fd_filled_by) (g_filled_by : mg "filled_by" = some (.ref a_filled_by)) {a_filled : Addr} {fd_filled : FuncData} (F_filled : FunD K "filled" "filled" (defArgs s_filled) (defBody s_filled) (defScope s_filled) [] [] a_filled fd_filled) (g_filled : mg "filled" = some (.ref a_filled)) {a_fitted : Addr} {fd_fitted : FuncData} (F_fitted : FunD K "fitted" "fitted" (defArgs s_fitted) (defBody s_fitted) (defScope s_fitted) [] [] a_fitted fd_fitted) (g_fitted : mg "fitted" = some (.ref a_fitted)) {a__law_deck : Addr} {fd__law_deck : FuncData} (F__law_deck : FunD K "_law_deck" "_law_deck" (defArgs s__law_deck) (defBody s__law_deck) (defScope s__law_deck) [] [] a__law_deck fd__law_deck) (g__law_deck : mg "_law_deck" = some (.ref a__law_deck)) {a__law_next : Addr} {fd__law_next : FuncData} (F__law_next : FunD K "_law_next" "_law_next" (defArgs s__law_next) (defBody s__law_next) (defScope s__law_next) [] [] a__law_next fd__law_next) (g__law_next : mg "_law_next" = some (.ref a__law_next)) {a__law_same : Addr} {fd__law_same : FuncData} (F__law_same : FunD K "_law_same" "_law_same" (defArgs s__law_same) (defBody s__law_same) (defScope s__law_same) [] [] a__law_same fd__law_same) (g__law_same : mg "_law_same" = some (.ref a__law_same)) {a__law_letters : Addr} {fd__law_letters : FuncData} (F__law_letters : FunD K "_law_letters" "_law_letters" (defArgs s__law_letters) (defBody s__law_letters) (defScope s__law_letters) [] [] a__law_letters fd__law_letters) (g__law_letters : mg "_law_letters" = some (.ref a__law_letters)) {a__law_name : Addr} {fd__law_name : FuncData} (F__law_name : FunD K "_law_name" "_law_name" (defArgs s__law_name) (defBody s__law_name) (defScope s__law_name) [] [] a__law_name fd__law_name) (g__law_name : mg "_law_name" = some (.ref a__law_name)) {a__law_any : Addr} {fd__law_any : FuncData} (F__law_any : FunD K "_law_any" "_law_any" (defArgs s__law_any) (defBody s__law_any) (defScope s__law_any) [] [] a__law_any fd__law_any) (g__law_any : mg "_law_any" = some (.ref a__law_any)) {a__law_unlike : Addr} {fd__law_unlike : FuncData} (F__law_unlike : FunD K "_law_unlike" "_law_unlike" (defArgs s__law_unlike) (defBody s__law_unlike) (defScope s__law_unlike) [] [] a__law_unlike fd__law_unlike) (g__law_unlike : mg "_law_unlike" = some (.ref a__law_unlike)) {a__law_parted : Addr} {fd__law_parted : FuncData} (F__law_parted : FunD K "_law_parted" "_law_parted" (defArgs s__law_parted) (defBody s__law_parted) (defScope s__law_parted) [] [] a__law_parted fd__law_parted) (g__law_parted : mg "_law_parted" = some (.ref a__law_parted)) {a__law_right : Addr} {fd__law_right : FuncData} (F__law_right : FunD K "_law_right" "_law_right" (defArgs s__law_right) (defBody s__law_right) (defScope s__law_right) [] [] a__law_right fd__law_right) (g__law_right : mg "_law_right" = some (.ref a__law_right)) {a_law : Addr} {fd_law : FuncData} (F_law : FunD K "law" "law" (defArgs s_law) (defBody s_law) (defScope s_law) [] [] a_law fd_law) (g_law : mg "law" = some (.ref a_law)) (m_tuple : mg "tuple" = none) (m_enumerate : mg "enumerate" = none) (m_zip : mg "zip" = none) (m_len : mg "len" = none) (m_abs : mg "abs" = none) (m_isinstance : mg "isinstance" = none) (m_int : mg "int" = none) (m_str : mg "str" = none) (m_bool : mg "bool" = none) (m_all : mg "all" = none) (m_range : mg "range" = none) (m_dict : mg "dict" = none)  (nt : NoTup K) : FnOk P w K mg base CX0 32 a_law fd_law ["_law_script"] (toSp K 1 sp_law) := by
  have c_parts_of := fn_parts_of (P := P) (w := w) (base := base) (k := 0) F_parts_of g_parts_of  does_parts_of
  have c_rebuilt := fn_rebuilt (P := P) (w := w) (base := base) (k := 0) F_rebuilt g_rebuilt m_tuple does_rebuilt
  have c_add_nodes : ∀ n, Fn P w K mg base (1 + n) "add_nodes" 3 (sp_add n) := by
    intro n
    induction n with
    | zero => exact fn_zero F_add_nodes g_add_nodes (F_add_nodes.bindsN (ps := sc_add_nodes_ps) fun _ _ _ _ _ _ us hl => match us, hl with | [_, _, _], _ => rfl) add_none
    | succ n ih => exact fn_add_nodes (P := P) (w := w) (base := base) (k := 1 + n) F_add_nodes g_add_nodes (c_parts_of.mono (by omega)) ih m_enumerate (does_add_nodes n)
  have c_nodes_of := fn_nodes_of (P := P) (w := w) (base := base) (k := 9) F_nodes_of g_nodes_of ((c_add_nodes 8).mono (by omega)) m_tuple does_nodes_of
  have c_names_of := fn_names_of (P := P) (w := w) (base := base) (k := 10) F_names_of g_names_of (c_nodes_of.mono (by omega)) m_tuple does_names_of
  have c_filled_by : ∀ n, Fn P w K mg base (1 + n) "filled_by" 2 (sp_fby n) := by
    intro n
    induction n with
    | zero => exact fn_zero F_filled_by g_filled_by (F_filled_by.bindsN (ps := sc_filled_by_ps) fun _ _ _ _ _ _ us hl => match us, hl with | [_, _], _ => rfl) fby_none
    | succ n ih => exact fn_filled_by (P := P) (w := w) (base := base) (k := 1 + n) F_filled_by g_filled_by (c_rebuilt.mono (by omega)) (c_parts_of.mono (by omega)) ih (does_fby n)
  have c_filled := fn_filled (P := P) (w := w) (base := base) (k := 5) F_filled g_filled ((c_filled_by 4).mono (by omega)) (does_filled 4)
  have c_fitted : ∀ n, Fn P w K mg base (0 + n) "fitted" 2 (sp_fitted n) := by
    intro n
    induction n with
    | zero => exact fn_zero F_fitted g_fitted (F_fitted.bindsN (ps := sc_fitted_ps) fun _ _ _ _ _ _ us hl => match us, hl with | [_, _], _ => rfl) fitted_none
    | succ n ih => exact fn_fitted (P := P) (w := w) (base := base) (k := 0 + n) F_fitted g_fitted ih m_zip m_len (does_fitted n)
  have c__law_deck := fn__law_deck (P := P) (w := w) (base := base) (k := 0) F__law_deck g__law_deck m_len m_abs does_deck
  have d__law_deck := fn_deck_told c__law_deck
  have c__law_next := fn__law_next (P := P) (w := w) (base := base) (k := 0) F__law_next g__law_next m_len does_next
  have d__law_next := fn_next_told c__law_next
  have c__law_same : ∀ n, Fn P w K mg base (0 + n) "_law_same" 2 (sp_same n) := by
    intro n
    induction n with
    | zero => exact fn_zero F__law_same g__law_same (F__law_same.bindsN (ps := sc__law_same_ps) fun _ _ _ _ _ _ us hl => match us, hl with | [_, _], _ => rfl) same_none
    | succ n ih => exact fn__law_same (P := P) (w := w) (base := base) (k := 0 + n) F__law_same g__law_same ih m_isinstance m_int m_str m_bool m_tuple m_zip m_all m_len (does_same n)
  have c__law_letters := fn__law_letters (P := P) (w := w) (base := base) (k := 1) F__law_letters g__law_letters (d__law_next.mono (by omega)) m_range (does_letters 0 2147483629)
  have c__law_name := fn__law_name (P := P) (w := w) (base := base) (k := 2) F__law_name g__law_name (c__law_letters.mono (by omega)) (d__law_next.mono (by omega)) m_int m_str (does_name 0 2147483629)
  have c__law_any : ∀ n, Fn P w K mg base (3 + n) "_law_any" 3 (sp_any 0 n) := by
    intro n
    induction n with
    | zero => exact fn_zero F__law_any g__law_any (F__law_any.bindsN (ps := sc__law_any_ps) fun _ _ _ _ _ _ us hl => match us, hl with | [_, _, _], _ => rfl) (any_none 0)
    | succ n ih => exact fn__law_any (P := P) (w := w) (base := base) (k := 3 + n) F__law_any g__law_any ih (c__law_name.mono (by omega)) (d__law_next.mono (by omega)) m_range m_tuple m_int m_len (does_any 0 2147483629 n)
  have c__law_unlike : ∀ n, Fn P w K mg base (0 + n) "_law_unlike" 2 (sp_unlike n) := by
    intro n
    induction n with
    | zero => exact fn_zero F__law_unlike g__law_unlike (F__law_unlike.bindsN (ps := sc__law_unlike_ps) fun _ _ _ _ _ _ us hl => match us, hl with | [_, _], _ => rfl) unlike_none
    | succ n ih => exact fn__law_unlike (P := P) (w := w) (base := base) (k := 0 + n) F__law_unlike g__law_unlike ih m_tuple m_len (does_unlike n)
  have c__law_parted := fn__law_parted (P := P) (w := w) (base := base) (k := 10) F__law_parted g__law_parted (c_nodes_of.mono (by omega)) m_len m_dict nt does_parted
  have c__law_right := fn__law_right (P := P) (w := w) (base := base) (k := 30) F__law_right g__law_right (c__law_parted.mono (by omega)) ((c__law_same 30).mono (by omega)) (c_filled.mono (by omega)) (c_names_of.mono (by omega)) ((c_fitted 4).mono (by omega)) m_tuple m_isinstance does_right
  have c_law := fn_law (P := P) (w := w) (base := base) (k := 31) F_law g_law (c__law_right.mono (by omega)) ((c__law_unlike 4).mono (by omega)) ((c__law_any 4).mono (by omega)) ((c__law_same 30).mono (by omega)) ((c_fitted 4).mono (by omega)) (c_filled.mono (by omega)) (c_names_of.mono (by omega)) (d__law_next.mono (by omega)) (d__law_deck.mono (by omega)) m_range m_tuple (does_law 2147483629)
  exact c_law
def d_parts_of : He.DefD := ⟨("parts_of", none), "parts_of", "parts_of", defArgs s_parts_of, defBody s_parts_of, defScope s_parts_of, [], []⟩
def d_rebuilt : He.DefD := ⟨("rebuilt", none), "rebuilt", "rebuilt", defArgs s_rebuilt, defBody s_rebuilt, defScope s_rebuilt, [], []⟩
def d_add_nodes : He.DefD := ⟨("add_nodes", none), "add_nodes", "add_nodes", defArgs s_add_nodes, defBody s_add_nodes, defScope s_add_nodes, [], []⟩
def d_nodes_of : He.DefD := ⟨("nodes_of", none), "nodes_of", "nodes_of", defArgs s_nodes_of, defBody s_nodes_of, defScope s_nodes_of, [], []⟩
def d_names_of : He.DefD := ⟨("names_of", none), "names_of", "names_of", defArgs s_names_of, defBody s_names_of, defScope s_names_of, [], []⟩
def d_filled_by : He.DefD := ⟨("filled_by", none), "filled_by", "filled_by", defArgs s_filled_by, defBody s_filled_by, defScope s_filled_by, [], []⟩
def d_filled : He.DefD := ⟨("filled", none), "filled", "filled", defArgs s_filled, defBody s_filled, defScope s_filled, [], []⟩
def d_fitted : He.DefD := ⟨("fitted", none), "fitted", "fitted", defArgs s_fitted, defBody s_fitted, defScope s_fitted, [], []⟩
def d__law_deck : He.DefD := ⟨("_law_deck", none), "_law_deck", "_law_deck", defArgs s__law_deck, defBody s__law_deck, defScope s__law_deck, [], []⟩
def d__law_next : He.DefD := ⟨("_law_next", none), "_law_next", "_law_next", defArgs s__law_next, defBody s__law_next, defScope s__law_next, [], []⟩
def d__law_same : He.DefD := ⟨("_law_same", none), "_law_same", "_law_same", defArgs s__law_same, defBody s__law_same, defScope s__law_same, [], []⟩
def d__law_letters : He.DefD := ⟨("_law_letters", none), "_law_letters", "_law_letters", defArgs s__law_letters, defBody s__law_letters, defScope s__law_letters, [], []⟩
def d__law_name : He.DefD := ⟨("_law_name", none), "_law_name", "_law_name", defArgs s__law_name, defBody s__law_name, defScope s__law_name, [], []⟩
def d__law_any : He.DefD := ⟨("_law_any", none), "_law_any", "_law_any", defArgs s__law_any, defBody s__law_any, defScope s__law_any, [], []⟩
def d__law_unlike : He.DefD := ⟨("_law_unlike", none), "_law_unlike", "_law_unlike", defArgs s__law_unlike, defBody s__law_unlike, defScope s__law_unlike, [], []⟩
def d__law_parted : He.DefD := ⟨("_law_parted", none), "_law_parted", "_law_parted", defArgs s__law_parted, defBody s__law_parted, defScope s__law_parted, [], []⟩
def d__law_right : He.DefD := ⟨("_law_right", none), "_law_right", "_law_right", defArgs s__law_right, defBody s__law_right, defScope s__law_right, [], []⟩
def d_law : He.DefD := ⟨("law", none), "law", "law", defArgs s_law, defBody s_law, defScope s_law, [], []⟩
def fnD : List He.DefD := [d_parts_of, d_rebuilt, d_add_nodes, d_nodes_of, d_names_of, d_filled_by, d_filled, d_fitted, d__law_deck, d__law_next, d__law_same, d__law_letters, d__law_name, d__law_any, d__law_unlike, d__law_parted, d__law_right, d_law]
def faD : List He.Fa := [.glo "parts_of", .glo "rebuilt", .glo "add_nodes", .glo "nodes_of", .glo "names_of", .glo "filled_by", .glo "filled", .glo "fitted", .glo "_law_deck", .glo "_law_next", .glo "_law_same", .glo "_law_letters", .glo "_law_name", .glo "_law_any", .glo "_law_unlike", .glo "_law_parted", .glo "_law_right", .glo "law", .free "tuple", .free "enumerate", .free "zip", .free "len", .free "abs", .free "isinstance", .free "int", .free "str", .free "bool", .free "all", .free "range", .free "dict"]
abbrev R : PySem.W.OpenRow := PySem.W.OpenLaw.row PySem.Challenge.rw_needfill_k05_whole_fitted_and_filled
def gsD : List (Str × D) := []
abbrev hk : PySem.W.Hook := hookE 4 faD fnD gsD
def ob (s : PySem.W.SharedT) : AlE := obsE 4 faD fnD gsD (HandSHeadRun.getT s)
theorem ob_eq (s : PySem.W.SharedT) : ob s = hk.obs s.abs := obsE_eq (HandSHeadRun.getT_eq s)
abbrev loose : List Str := ["parts_of", "rebuilt", "add_nodes", "nodes_of", "names_of", "filled_by", "filled", "fitted", "_law_deck", "_law_next", "_law_same", "_law_letters", "_law_name", "_law_any", "_law_unlike", "_law_parted", "_law_right"]
theorem run (w : World) : HandSHeadRun.RunEq R (PySem.W.view R.prog [19]) hk ob 4000 loose w := by
  intro os
  kernel_rfl
theorem facts {P : Program} {w : World} {K : PySem.W.Frag} {h : Heap} {mg : Str → Option Value} {f : Addr} (X : K.In h) (G : h.Ns mainGlobals mg) (hfa : mg ("law" : Str) = some (.ref f)) (cE : SaysE faD fnD gsD K) :
    ∃ fd : FuncData, (∀ (s : Shared) (v : Value), BindsTo s fd ⟨[v], []⟩ [("_law_script", v)]) ∧ ∀ base : Heap, K.In base → base.Ns mainGlobals mg → FnOk P w K mg base CX0 32 f fd ["_law_script"] (toSp K 1 sp_law) := by
  have c := cE.d
  obtain ⟨fd_parts_of, F_parts_of⟩ := c.def_ 0 (d := d_parts_of) rfl
  obtain ⟨fd_rebuilt, F_rebuilt⟩ := c.def_ 1 (d := d_rebuilt) rfl
  obtain ⟨fd_add_nodes, F_add_nodes⟩ := c.def_ 2 (d := d_add_nodes) rfl
  obtain ⟨fd_nodes_of, F_nodes_of⟩ := c.def_ 3 (d := d_nodes_of) rfl
  obtain ⟨fd_names_of, F_names_of⟩ := c.def_ 4 (d := d_names_of) rfl
  obtain ⟨fd_filled_by, F_filled_by⟩ := c.def_ 5 (d := d_filled_by) rfl
  obtain ⟨fd_filled, F_filled⟩ := c.def_ 6 (d := d_filled) rfl
  obtain ⟨fd_fitted, F_fitted⟩ := c.def_ 7 (d := d_fitted) rfl
  obtain ⟨fd__law_deck, F__law_deck⟩ := c.def_ 8 (d := d__law_deck) rfl
  obtain ⟨fd__law_next, F__law_next⟩ := c.def_ 9 (d := d__law_next) rfl
  obtain ⟨fd__law_same, F__law_same⟩ := c.def_ 10 (d := d__law_same) rfl
  obtain ⟨fd__law_letters, F__law_letters⟩ := c.def_ 11 (d := d__law_letters) rfl
  obtain ⟨fd__law_name, F__law_name⟩ := c.def_ 12 (d := d__law_name) rfl
  obtain ⟨fd__law_any, F__law_any⟩ := c.def_ 13 (d := d__law_any) rfl
  obtain ⟨fd__law_unlike, F__law_unlike⟩ := c.def_ 14 (d := d__law_unlike) rfl
  obtain ⟨fd__law_parted, F__law_parted⟩ := c.def_ 15 (d := d__law_parted) rfl
  obtain ⟨fd__law_right, F__law_right⟩ := c.def_ 16 (d := d__law_right) rfl
  obtain ⟨fd_law, F_law⟩ := c.def_ 17 (d := d_law) rfl
  have g_parts_of := He.glo_ok X G (c.fact 0 (f := .glo "parts_of") rfl)
  have g_rebuilt := He.glo_ok X G (c.fact 1 (f := .glo "rebuilt") rfl)
  have g_add_nodes := He.glo_ok X G (c.fact 2 (f := .glo "add_nodes") rfl)
  have g_nodes_of := He.glo_ok X G (c.fact 3 (f := .glo "nodes_of") rfl)
  have g_names_of := He.glo_ok X G (c.fact 4 (f := .glo "names_of") rfl)
  have g_filled_by := He.glo_ok X G (c.fact 5 (f := .glo "filled_by") rfl)
  have g_filled := He.glo_ok X G (c.fact 6 (f := .glo "filled") rfl)
  have g_fitted := He.glo_ok X G (c.fact 7 (f := .glo "fitted") rfl)
  have g__law_deck := He.glo_ok X G (c.fact 8 (f := .glo "_law_deck") rfl)
  have g__law_next := He.glo_ok X G (c.fact 9 (f := .glo "_law_next") rfl)
  have g__law_same := He.glo_ok X G (c.fact 10 (f := .glo "_law_same") rfl)
  have g__law_letters := He.glo_ok X G (c.fact 11 (f := .glo "_law_letters") rfl)
  have g__law_name := He.glo_ok X G (c.fact 12 (f := .glo "_law_name") rfl)
  have g__law_any := He.glo_ok X G (c.fact 13 (f := .glo "_law_any") rfl)
  have g__law_unlike := He.glo_ok X G (c.fact 14 (f := .glo "_law_unlike") rfl)
  have g__law_parted := He.glo_ok X G (c.fact 15 (f := .glo "_law_parted") rfl)
  have g__law_right := He.glo_ok X G (c.fact 16 (f := .glo "_law_right") rfl)
  have g_law := He.glo_ok X G (c.fact 17 (f := .glo "law") rfl)
  have m_tuple := He.free_ok X G (c.fact 18 (f := .free "tuple") rfl)
  have m_enumerate := He.free_ok X G (c.fact 19 (f := .free "enumerate") rfl)
  have m_zip := He.free_ok X G (c.fact 20 (f := .free "zip") rfl)
  have m_len := He.free_ok X G (c.fact 21 (f := .free "len") rfl)
  have m_abs := He.free_ok X G (c.fact 22 (f := .free "abs") rfl)
  have m_isinstance := He.free_ok X G (c.fact 23 (f := .free "isinstance") rfl)
  have m_int := He.free_ok X G (c.fact 24 (f := .free "int") rfl)
  have m_str := He.free_ok X G (c.fact 25 (f := .free "str") rfl)
  have m_bool := He.free_ok X G (c.fact 26 (f := .free "bool") rfl)
  have m_all := He.free_ok X G (c.fact 27 (f := .free "all") rfl)
  have m_range := He.free_ok X G (c.fact 28 (f := .free "range") rfl)
  have m_dict := He.free_ok X G (c.fact 29 (f := .free "dict") rfl)
  have e := hfa.symm.trans g_law
  cases e
  have b := FunD.bindsA (ps := ["_law_script"]) F_law fun _ _ _ _ _ _ us hl => match us, hl with | [_], _ => rfl
  refine ⟨fd_law, fun s v => b s [v] rfl, fun base _ _ => ?_⟩
  exact chain (P := P) (w := w) (base := base) F_parts_of g_parts_of F_rebuilt g_rebuilt F_add_nodes g_add_nodes F_nodes_of g_nodes_of F_names_of g_names_of F_filled_by g_filled_by F_filled g_filled F_fitted g_fitted F__law_deck g__law_deck F__law_next g__law_next F__law_same g__law_same F__law_letters g__law_letters F__law_name g__law_name F__law_any g__law_any F__law_unlike g__law_unlike F__law_parted g__law_parted F__law_right g__law_right F_law g_law m_tuple m_enumerate m_zip m_len m_abs m_isinstance m_int m_str m_bool m_all m_range m_dict  cE.nt
end DL
open PySem PySem.W PySem.Calls PyProof.Rows
theorem PySem.Challenge.cw_needfill_k05_whole_fitted_and_filled_holds : PySem.Challenge.rw_needfill_k05_whole_fitted_and_filled.Holds := by
  w_on; o_law
  refine HandSHeadRun.head_any (r := OpenLaw.row PySem.Challenge.rw_needfill_k05_whole_fitted_and_filled) (q := view (OpenLaw.row PySem.Challenge.rw_needfill_k05_whole_fitted_and_filled).prog [19]) (H := DL.hk) (ob := DL.ob) (M := 4000) (loose := DL.loose) (d := HandSHeadRun.topDef (OpenLaw.row PySem.Challenge.rw_needfill_k05_whole_fitted_and_filled).prog 19) (kwd := []) DL.ob_eq
    (by kernel_rfl) (fun s => by kernel_rfl) DL.run (by kernel_rfl) (by kernel_rfl) (by kernel_rfl) (by rfl) (by first | assumption | decide +kernel) (by decide +kernel) ⟨rfl, rfl, rfl, rfl, rfl, by decide +kernel⟩ ?hw ?hc
  case hw => w_witness2
  case hc =>
    refine L2.walk_ofE (l := PySem.Challenge.rw_needfill_k05_whole_fitted_and_filled) (n := 63) (k := 32) (x := "_law_script") (CX := L2.CX0) rfl (by decide) (by kernel_rfl) ⟨rfl, by decide, by decide⟩ ?F (fun _ _ _ _ z => z)
    intro w mg fa h Y G hmg0
    obtain ⟨K, KX, c⟩ := Y
    have hmg : mg ("law" : PySem.Str) = some (.ref fa) := by
      have e : (HandSHeadRun.topDef (OpenLaw.row PySem.Challenge.rw_needfill_k05_whole_fitted_and_filled).prog 19).name = ("law" : PySem.Str) := by kernel_rfl
      rw [← e]
      exact hmg0
    obtain ⟨fd, hb, hF⟩ := DL.facts (P := (PySem.Challenge.rw_needfill_k05_whole_fitted_and_filled).prog) (w := w) KX G hmg c
    exact ⟨K, fd, DL.toSp K 1 DL.sp_law, KX, hb, fun H a ns hl _ hS => DL.law_start hl hS, hF⟩
