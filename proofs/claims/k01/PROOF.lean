import PyProof.Rows.All
import Wide.All
import OpenK.AllK
import Wide.FinOn
import KE.KStateDown
import Lean
import HandS.Base
import HandS.Call
import HandS.Ends
import HandS.More
import HandS.Words
import HandS.WordsExc
import HandS.Defaults
import HandS.ForMost
import HandS.TupAny
import HandS.Zip
import HandS.IsInst
import HandS.Wide
import KE.GoesMore
import HandS.Dict
import KE.KRevSl
import PyProof.EqAt
import PyProof.NeKinds
import HandS.Style
import HandS.DictComp
import HandS.TryOnly
import HandS.Head0
import HandS.Head1
import HandS.Head2
import HandS.HeadEnd
import HandS.HeadHook1
import HandS.HeadHook2
import PySem.Challenge.RW_needfill_k01_words_and_sayings
set_option Elab.async false
set_option linter.all false
set_option maxRecDepth 100000
set_option maxHeartbeats 4000000
set_option autoImplicit false
/-! DLP: data by values, memory by places, and what Python's constructs ask of them. -/
namespace DL
open PySem

abbrev Key := Sum Int Str
/-- sizes that are safe everywhere -/
abbrev SZ : Nat := 100000

/-- data: what never changes is told by value; .ref is an object of the memory -/
inductive D where
  | non | bl (b : Bool) | int (i : Int) | str (x : Str) | ref (a : Addr)
  | tup (xs : List D) | lst (xs : List D) | rol (xs : List D)
  | dK (ks : List Key) (vs : List D) | dT (ks : List (List Key)) (vs : List D)
  | ins (C : Addr) (ns : List Str) (vs : List D)
  | ty (n : String) | cls (C : Addr)

/-- what stands at a place of the memory -/
inductive MO where
  | lst (xs : List D)
  | dK (ks : List Key) (vs : List D)
  | dT (ks : List (List Key)) (vs : List D)
  | ins (C : Addr) (ns : List Str) (vs : List D)
  | deck (kind : Nat) (b : Nat)
  | part (a : Addr)

abbrev Mem := Addr → Option MO
def mset (M : Mem) (a : Addr) (o : MO) : Mem := fun b => if b = a then some o else M b
@[simp] theorem mset_same (M : Mem) (a : Addr) (o : MO) : mset M a o a = some o := if_pos rfl
theorem mset_ne {M : Mem} {a b : Addr} {o : MO} (h : b ≠ a) : mset M a o b = M b := if_neg h
@[simp] theorem mset_mset (M : Mem) (a : Addr) (o o' : MO) : mset (mset M a o) a o' = mset M a o' := by
  funext b; unfold mset; split <;> rfl
theorem mset_self {M : Mem} {a : Addr} {o : MO} (h : M a = some o) : mset M a o = M := by
  funext b; unfold mset; split
  · rename_i e; rw [e, h]
  · rfl
theorem mset_comm {M : Mem} {a b : Addr} {o o' : MO} (h : a ≠ b) : mset (mset M a o) b o' = mset (mset M b o') a o := by
  funext c; unfold mset
  by_cases h1 : c = b
  · subst h1; rw [if_pos rfl, if_neg (Ne.symm h), if_pos rfl]
  · rw [if_neg h1]
    by_cases h2 : c = a
    · rw [if_pos h2, if_pos h2]
    · rw [if_neg h2, if_neg h2, if_neg h1]
def mdel (M : Mem) (a : Addr) : Mem := fun b => if b = a then none else M b
/-- an object that may be forgotten -/
def soft : Option MO → Prop
  | some (.deck _ _) => False
  | some (.part _) => False
  | _ => True
/-- less is known -/
def Sub (M M' : Mem) : Prop := ∀ a, M a = M' a ∨ (M a = none ∧ soft (M' a))
theorem Sub.refl (M : Mem) : Sub M M := fun _ => .inl rfl
theorem Sub.trans {M M1 M2 : Mem} (a : Sub M M1) (b : Sub M1 M2) : Sub M M2 := fun x => by
  rcases a x with h | ⟨h, s⟩
  · rcases b x with h' | ⟨h', s'⟩
    · exact .inl (h.trans h')
    · exact .inr ⟨h.trans h', s'⟩
  · rcases b x with h' | ⟨h', s'⟩
    · exact .inr ⟨h, h' ▸ s⟩
    · exact .inr ⟨h, s'⟩
theorem Sub.new {M : Mem} {a : Addr} {o : MO} (h : M a = none) (s : soft (some o)) : Sub M (mset M a o) := fun b => by
  by_cases e : b = a
  · subst e; rw [mset_same]; exact .inr ⟨h, s⟩
  · rw [mset_ne e]; exact .inl rfl
theorem Sub.lst {M : Mem} {a : Addr} {xs : List D} (h : M a = none) : Sub M (mset M a (.lst xs)) := .new h trivial
theorem Sub.mset {M M' : Mem} (s : Sub M M') (a : Addr) (o : MO) : Sub (mset M a o) (mset M' a o) := fun b => by
  by_cases e : b = a
  · subst e; rw [mset_same, mset_same]; exact .inl rfl
  · rw [mset_ne e, mset_ne e]; exact s b

abbrev Env := List (Option D)
abbrev DK := D → Mem → Prop
abbrev DE := Env → Mem → DK → Prop
abbrev BK := Bool → Mem → Prop
abbrev DT := Env → Mem → BK → Prop
abbrev DA := Env → Mem → (List D → Mem → Prop) → Prop
abbrev DI := Env → Mem → (List D → Mem → Prop) → Prop
structure DEnds where
  nx : Env → Mem → Prop
  rt : DK
  bk : Env → Mem → Prop := fun _ _ => False
  ct : Env → Mem → Prop := fun _ _ => False
abbrev DS := DEnds → Env → Mem → Prop
abbrev DG := D → Env → Mem → (Env → Mem → Prop) → Prop
abbrev DGs := List D → Env → Mem → (Env → Mem → Prop) → Prop
/-- what a def is worth: where it may be called, what comes of it -/
structure Spec where
  pre : List D → Mem → Prop
  post : List D → Mem → D → Mem → Prop
/-- a function of its arguments -/
def Spec.fn (pre : List D → Prop) (f : List D → D) : Spec := ⟨fun ds _ => pre ds, fun ds M d M' => d = f ds ∧ M' = M⟩
abbrev R2 := D → D → Mem → DK → Prop
abbrev R1 := D → Mem → DK → Prop

/-! ### lists, sequences, indices -/
/-- a list that is read -/
def asL (M : Mem) : D → Option (List D)
  | .lst xs => some xs
  | .rol xs => some xs
  | .ref a => match M a with
    | some (.lst xs) => some xs
    | _ => none
  | _ => none
/-- a list that is tracked by itself -/
def asW (M : Mem) : D → Option (List D)
  | .lst xs => some xs
  | .ref a => match M a with
    | some (.lst xs) => some xs
    | _ => none
  | _ => none
def asS (M : Mem) : D → Option (List D)
  | .tup xs => some xs
  | x => asL M x
def ixN (n : Nat) (i : Int) : Option Nat := if 0 ≤ i then (if i < n then some i.toNat else none) else if -(n : Int) ≤ i then some (i + n).toNat else none
def atI {α : Type} (xs : List α) (i : Int) : Option α := (ixN xs.length i).bind fun j => xs[j]?
def sIx (n d : Nat) : Option Int → Nat
  | none => d
  | some i => if i < 0 then (i + n).toNat else min i.toNat n
def cut {α : Type} (xs : List α) (lo hi : Option Int) : List α := (xs.drop (sIx xs.length 0 lo)).take (sIx xs.length xs.length hi - sIx xs.length 0 lo)
def chars (x : Str) : List D := x.cps.toList.map fun c => .str ⟨#[c]⟩

/-! ### equality of data -/
mutual
def eqv : D → D → Bool
  | .non, .non => true
  | .bl a, .bl b => a == b
  | .bl a, .int j => (if a then 1 else 0) == j
  | .int i, .bl b => i == (if b then 1 else 0)
  | .int i, .int j => i == j
  | .str x, .str y => x == y
  | .lst xs, .lst ys => eqvs xs ys
  | .tup xs, .tup ys => eqvs xs ys
  | _, _ => false
def eqvs : List D → List D → Bool
  | [], [] => true
  | x :: xs, y :: ys => eqv x y && eqvs xs ys
  | _, _ => false
end
def strOk (x : Str) : Bool := x.cps.all (· < 0x110000)
mutual
/-- data that may be compared: no places, no dicts -/
def plain : D → Bool
  | .non => true
  | .bl _ => true
  | .int _ => true
  | .str x => strOk x
  | .tup xs => plains xs
  | .lst xs => plains xs
  | _ => false
def plains : List D → Bool
  | [] => true
  | x :: xs => plain x && plains xs
end
mutual
def depth : D → Nat
  | .tup xs => depths xs + 1
  | .lst xs => depths xs + 1
  | _ => 1
def depths : List D → Nat
  | [] => 0
  | x :: xs => max (depth x) (depths xs)
end
def cmpOk (d : D) : Bool := plain d && decide (depth d ≤ 64)
/-- data to be compared, a list of the memory as it stands -/
def asC (M : Mem) : D → D
  | .ref a => match M a with
    | some (.lst xs) => .lst xs
    | _ => .ref a
  | d => d
def flat : D → Bool
  | .non => true
  | .bl _ => true
  | .int _ => true
  | .str _ => true
  | _ => false

/-! ### operators -/
def oAdd : R2
  | .int i, .int j, M, Q => Q (.int (i + j)) M
  | .str a, .str b, M, Q => a.length + b.length ≤ 100000 ∧ Q (.str (a ++ b)) M
  | .tup a, .tup b, M, Q => a.length + b.length ≤ 100000 ∧ Q (.tup (a ++ b)) M
  | x, y, M, Q => match asW M x, asW M y with
    | some a, some b => a.length + b.length ≤ 100000 ∧ Q (.lst (a ++ b)) M
    | _, _ => False
def oSub : R2
  | .int i, .int j, M, Q => Q (.int (i - j)) M
  | _, _, _, _ => False
def small (i : Int) : Prop := -(2 ^ 64) < i ∧ i < 2 ^ 64
/-- a text, some times -/
def repS (n : Nat) (x : Str) : Str := ⟨(List.replicate n x.cps).foldl (· ++ ·) #[]⟩
def oRep : R2
  | .str x, .int k, M, Q => (1 ≤ k ∧ k ≤ 1000 ∧ 1 ≤ x.length ∧ x.length ≤ 100) ∧ Q (.str (repS k.toNat x)) M
  | _, _, _, _ => False
def oMul : R2
  | .int i, .int j, M, Q => (small i ∨ small j) ∧ Q (.int (i * j)) M
  | .str x, .int k, M, Q => (0 ≤ k ∧ k ≤ 1000 ∧ 1 ≤ x.length ∧ x.length ≤ 100) ∧ Q (.str (repS k.toNat x)) M
  | .lst xs, .int k, M, Q => (0 ≤ k ∧ k ≤ 1000 ∧ xs.length ≤ 100) ∧ Q (.lst (List.replicate k.toNat xs).flatten) M
  | _, _, _, _ => False
/-- two lists one behind the other: a new list that may change -/
def oCatN : R2 := fun x y M Q => match asW M x, asW M y with
  | some a, some b => a.length + b.length ≤ 100000 ∧ ∀ p, M p = none → Q (.ref p) (mset M p (.lst (a ++ b)))
  | _, _ => False
def oAddI : R2
  | .int i, .int j, M, Q => Q (.int (i + j)) M
  | _, _, _, _ => False
def oMax : R2
  | .int i, .int j, M, Q => Q (.int (if j > i then j else i)) M
  | _, _, _, _ => False
def oFdiv : R2
  | .int i, .int j, M, Q => (0 < j ∧ j < 2 ^ 200) ∧ Q (.int (i / j)) M
  | _, _, _, _ => False
def oMod : R2
  | .int i, .int j, M, Q => 0 < j ∧ Q (.int (i % j)) M
  | _, _, _, _ => False
def oPow : R2
  | .int i, .int j, M, Q => (0 ≤ j ∧ j ≤ 1000000 ∧ i.natAbs < 2 ^ 64) ∧ Q (.int (i ^ j.toNat)) M
  | _, _, _, _ => False
def oNeg : R1
  | .int i, M, Q => Q (.int (-i)) M
  | _, _, _ => False
def oLt : R2
  | .int i, .int j, M, Q => Q (.bl (decide (i < j))) M
  | _, _, _, _ => False
def oLe : R2
  | .int i, .int j, M, Q => Q (.bl (decide (i ≤ j))) M
  | _, _, _, _ => False
def oGt : R2
  | .int i, .int j, M, Q => Q (.bl (decide (j < i))) M
  | _, _, _, _ => False
def oGe : R2
  | .int i, .int j, M, Q => Q (.bl (decide (j ≤ i))) M
  | _, _, _, _ => False
/-- ==, as a bool -/
def eqB : D → D → Mem → BK → Prop
  | .str a, .str b, M, Q => Q (decide (a = b)) M
  | .int a, .int b, M, Q => Q (decide (a = b)) M
  | .bl a, .bl b, M, Q => Q (decide (a = b)) M
  | x, y, M, Q => cmpOk (asC M x) = true ∧ cmpOk (asC M y) = true ∧ Q (eqv (asC M x) (asC M y)) M
@[simp] def oEq : R2 := fun x y M Q => eqB x y M fun b M1 => Q (.bl b) M1
@[simp] def oNe : R2 := fun x y M Q => eqB x y M fun b M1 => Q (.bl (!b)) M1
def oIsN : R1
  | .non, M, Q => Q (.bl true) M
  | _, M, Q => Q (.bl false) M
def oNotN : R1
  | .non, M, Q => Q (.bl false) M
  | _, M, Q => Q (.bl true) M
/-- in, as a bool -/
def inB : D → D → Mem → BK → Prop
  | .str a, .str b, M, Q => ∃ c, a = ⟨#[c]⟩ ∧ Q (decide (c ∈ b.cps.toList)) M
  | x, y, M, Q => match asS M y with
    | some ys => flat x = true ∧ ys.all flat = true ∧ Q (ys.any fun z => eqv z x) M
    | none => False
@[simp] def oIn : R2 := fun x y M Q => inB x y M fun b M1 => Q (.bl b) M1
@[simp] def oNotIn : R2 := fun x y M Q => inB x y M fun b M1 => Q (.bl (!b)) M1
/-- x[i] -/
def oIx : R2
  | .str s, .int i, M, Q => s.length ≤ 100000 ∧ (match atI s.cps.toList i with
    | some c => Q (.str ⟨#[c]⟩) M
    | none => False)
  | x, .int i, M, Q => match asS M x with
    | some xs => (match atI xs i with
      | some v => Q v M
      | none => False)
    | none => False
  | _, _, _, _ => False
def oLen : R1
  | .str s, M, Q => s.length ≤ 100000 ∧ Q (.int s.length) M
  | x, M, Q => match asS M x with
    | some xs => Q (.int xs.length) M
    | none => False
/-- x[lo:hi] -/
def oCut : D → Option Int → Option Int → Mem → DK → Prop
  | .str s, lo, hi, M, Q => s.length ≤ 100000 ∧ Q (.str ⟨(cut s.cps.toList lo hi).toArray⟩) M
  | .tup xs, lo, hi, M, Q => Q (.tup (cut xs lo hi)) M
  | x, lo, hi, M, Q => match asL M x with
    | some xs => Q (.lst (cut xs lo hi)) M
    | none => False
/-- the kind of a thing -/
def tyOf (M : Mem) : D → String
  | .non => "NoneType"
  | .bl _ => "bool"
  | .int _ => "int"
  | .str _ => "str"
  | .tup _ => "tuple"
  | .lst _ => "list"
  | .dK _ _ => "dict"
  | .dT _ _ => "dict"
  | .ref a => match M a with
    | some (.lst _) => "list"
    | some (.dK _ _) => "dict"
    | some (.dT _ _) => "dict"
    | _ => ""
  | _ => ""
/-- isinstance(x, T) of a built-in class T -/
@[simp] def oIsi (T : String) : R1 := fun x M Q => tyOf M x ≠ "" ∧ Q (.bl (tyOf M x == T || (T == "int" && tyOf M x == "bool"))) M
def oAbs : R1
  | .int i, M, Q => Q (.int (if i < 0 then -i else i)) M
  | _, _, _ => False
def oInt : R1
  | .int i, M, Q => Q (.int i) M
  | .bl b, M, Q => Q (.int (if b then 1 else 0)) M
  | _, _, _ => False
def oStr : R1
  | .int i, M, Q => i.natAbs < 2 ^ 200 ∧ Q (.str (toString i)) M
  | _, _, _ => False
def oTuple : R1
  | .tup xs, M, Q => Q (.tup xs) M
  | x, M, Q => match asL M x with
    | some xs => Q (.tup xs) M
    | none => False
def oList : R1 := fun x M Q => match asS M x with
  | some xs => Q (.lst xs) M
  | none => False
def dBools : List D → Option (List Bool)
  | [] => some []
  | .bl b :: r => (dBools r).map (b :: ·)
  | _ :: _ => none
def dInts : List D → Option (List Int)
  | [] => some []
  | .int b :: r => (dInts r).map (b :: ·)
  | _ :: _ => none
def oAll : R1 := fun x M Q => match (asL M x).bind dBools with
  | some bs => Q (.bl (bs.all id)) M
  | none => False
def oAny : R1 := fun x M Q => match (asL M x).bind dBools with
  | some bs => Q (.bl (bs.any id)) M
  | none => False
def oSum : R1 := fun x M Q => match (asL M x).bind dInts with
  | some ns => Q (.int ns.sum) M
  | none => False

/-! ### expressions -/
@[simp] def dV (i : Nat) : DE := fun ρ M Q => match ρ[i]? with
  | some (some d) => Q d M
  | _ => False
@[simp] def dC (d : D) : DE := fun _ M Q => Q d M
@[simp] def dA0 : DA := fun _ M Q => Q [] M
@[simp] def dA (t : DE) (r : DA) : DA := fun ρ M Q => t ρ M fun x M1 => r ρ M1 fun xs M2 => Q (x :: xs) M2
@[simp] def dTup (t : DA) : DE := fun ρ M Q => t ρ M fun xs M1 => Q (.tup xs) M1
/-- a list that is never changed; a list of the memory -/
@[simp] def dLst (t : DA) : DE := fun ρ M Q => t ρ M fun xs M1 => Q (.lst xs) M1
@[simp] def dNew (t : DA) : DE := fun ρ M Q => t ρ M fun xs M1 => ∀ p, M1 p = none → Q (.ref p) (mset M1 p (.lst xs))
@[simp] def dOp (r : R2) (ta tb : DE) : DE := fun ρ M Q => ta ρ M fun x M1 => tb ρ M1 fun y M2 => r x y M2 Q
@[simp] def dUn (r : R1) (ta : DE) : DE := fun ρ M Q => ta ρ M fun x M1 => r x M1 Q
@[simp] def dCut (ta : DE) (tl th : Env → Mem → (Option Int → Mem → Prop) → Prop) : DE := fun ρ M Q => ta ρ M fun x M1 => tl ρ M1 fun lo M2 => th ρ M2 fun hi M3 => oCut x lo hi M3 Q
@[simp] def dNoPart : Env → Mem → (Option Int → Mem → Prop) → Prop := fun _ M Q => Q none M
@[simp] def dPart (t : DE) : Env → Mem → (Option Int → Mem → Prop) → Prop := fun ρ M Q => t ρ M fun x M1 => match x with
  | .int i => Q (some i) M1
  | _ => False
@[simp] def dTest (te : DE) : DT := fun ρ M Q => te ρ M fun x M1 => match x with
  | .bl b => Q b M1
  | _ => False
@[simp] def dAnd (t u : DT) : DT := fun ρ M Q => t ρ M fun c M1 => if c = true then u ρ M1 Q else Q false M1
@[simp] def dOr (t u : DT) : DT := fun ρ M Q => t ρ M fun c M1 => if c = true then Q true M1 else u ρ M1 Q
@[simp] def dNot (t : DT) : DT := fun ρ M Q => t ρ M fun c M1 => Q (!c) M1
@[simp] def dAndV (ta tb : DE) : DE := fun ρ M Q => ta ρ M fun x M1 => match x with
  | .bl c => if c = true then tb ρ M1 Q else Q (.bl false) M1
  | _ => False
@[simp] def dOrV (ta tb : DE) : DE := fun ρ M Q => ta ρ M fun x M1 => match x with
  | .bl c => if c = true then Q (.bl true) M1 else tb ρ M1 Q
  | _ => False
@[simp] def dNotV (ta : DE) : DE := fun ρ M Q => ta ρ M fun x M1 => match x with
  | .bl c => Q (.bl (!c)) M1
  | _ => False
@[simp] def dIfE (t : DT) (ta tb : DE) : DE := fun ρ M Q => t ρ M fun c M1 => if c = true then ta ρ M1 Q else tb ρ M1 Q
/-- a < b < c -/
@[simp] def dChain (r r' : R2) (ta tb tc : DE) : DE := fun ρ M Q => ta ρ M fun x M1 => tb ρ M1 fun y M2 => r x y M2 fun z M3 => match z with
  | .bl k => if k = true then tc ρ M3 fun u M4 => r' y u M4 Q else Q (.bl false) M3
  | _ => False
@[simp] def dCall (sp : Spec) (t : DA) : DE := fun ρ M Q => t ρ M fun xs M1 => sp.pre xs M1 ∧ ∀ d M', sp.post xs M1 d M' → Q d M'
/-- a method of a list of the memory -/
@[simp] def dMeth (r : R2) (to ta : DE) : DE := fun ρ M Q => to ρ M fun x M1 => (asL M1 x).isSome = true ∧ ta ρ M1 fun y M2 => r x y M2 Q
@[simp] def dMeth0 (r : R1) (to : DE) : DE := fun ρ M Q => to ρ M fun x M1 => (asL M1 x).isSome = true ∧ r x M1 Q
/-- l.append(x), l.pop(), l.pop(i), as expressions -/
def mAppend : R2
  | .ref l, x, M, Q => match M l with
    | some (.lst xs) => xs.length < 100000 ∧ Q .non (mset M l (.lst (xs ++ [x])))
    | _ => False
  | _, _, _, _ => False
/-- l.index(x) -/
def ixOf : List D → D → Nat → Option Nat
  | [], _, _ => none
  | y :: ys, x, k => if eqv y x = true then some k else ixOf ys x (k + 1)
def mIndex : R2 := fun x y M Q => match asL M x with
  | some ys => flat y = true ∧ ys.all flat = true ∧ (match ixOf ys y 0 with
    | some k => Q (.int (k : Nat)) M
    | none => False)
  | none => False
def mPop : R1
  | .ref l, M, Q => match M l with
    | some (.lst xs) => (match xs[xs.length - 1]? with
      | some y => Q y (mset M l (.lst xs.dropLast))
      | none => False)
    | _ => False
  | _, _, _ => False
def mPopAt : R2
  | .ref l, .int i, M, Q => match M l with
    | some (.lst xs) => (-(2 ^ 63) ≤ i ∧ i < 2 ^ 63) ∧ (match ixN xs.length i with
      | some k => (match xs[k]? with
        | some y => Q y (mset M l (.lst (xs.eraseIdx k)))
        | none => False)
      | none => False)
    | _ => False
  | _, _, _, _ => False

/-- t[::-1] of a tuple -/
def oRev : R1
  | .tup xs, M, Q => Q (.tup xs.reverse) M
  | _, _, _ => False
@[simp] theorem oRev_tup (xs : List D) {M : Mem} {Q : DK} : oRev (.tup xs) M Q = Q (.tup xs.reverse) M := rfl
/-- t == (), t != () -/
def oEqT0 : R2
  | .tup xs, .tup [], M, Q => Q (.bl xs.isEmpty) M
  | _, _, _, _ => False
def oNeT0 : R2
  | .tup xs, .tup [], M, Q => Q (.bl (!xs.isEmpty)) M
  | _, _, _, _ => False
@[simp] theorem oEqT0_tup (xs : List D) {M : Mem} {Q : DK} : oEqT0 (.tup xs) (.tup []) M Q = Q (.bl xs.isEmpty) M := rfl
@[simp] theorem oNeT0_tup (xs : List D) {M : Mem} {Q : DK} : oNeT0 (.tup xs) (.tup []) M Q = Q (.bl (!xs.isEmpty)) M := rfl
/-- {} that is never changed -/
@[simp] def dDict0 : DE := fun _ M Q => Q (.dK [] []) M
/-- a call whose last arguments are the def's own -/
@[simp] def dCallD (sp : Spec) (dd : List D) (t : DA) : DE := fun ρ M Q => t ρ M fun xs M1 => sp.pre (xs ++ dd) M1 ∧ ∀ d M', sp.post (xs ++ dd) M1 d M' → Q d M'

/-! ### what is walked -/
@[simp] def iSeq (t : DE) : DI := fun ρ M R => t ρ M fun x M1 => match x with
  | .tup xs => R xs M1
  | .lst xs => R xs M1
  | .rol xs => R xs M1
  | .str s => R (chars s) M1
  | _ => False
def upTo (n : Nat) : List D := (List.range n).map fun (i : Nat) => .int (i : Int)
@[simp] def iRange (t : DE) : DI := fun ρ M R => t ρ M fun x M1 => match x with
  | .int n => (-(2 ^ 62) ≤ n ∧ n < 2 ^ 62) ∧ R (upTo n.toNat) M1
  | _ => False
def enumD : Nat → List D → List D
  | _, [] => []
  | n, x :: xs => .tup [.int (n : Int), x] :: enumD (n + 1) xs
@[simp] def iEnum (t : DE) : DI := fun ρ M R => t ρ M fun x M1 => match x with
  | .tup xs => R (enumD 0 xs) M1
  | .lst xs => R (enumD 0 xs) M1
  | .rol xs => R (enumD 0 xs) M1
  | _ => False
def zipD : List D → List D → List D
  | x :: xs, y :: ys => .tup [x, y] :: zipD xs ys
  | _, _ => []
@[simp] def iZip (ta tb : DE) : DI := fun ρ M R => ta ρ M fun x M1 => tb ρ M1 fun y M2 => match x, y with
  | .tup xs, .tup ys => R (zipD xs ys) M2
  | .lst xs, .lst ys => R (zipD xs ys) M2
  | _, _ => False
/-- a comprehension, its list never changed -/
@[simp] def wipe (ρ : Env) : List Nat → Env
  | [] => ρ
  | v :: vs => (wipe ρ vs).set v none
@[simp] def dCompL (g : DG) (tt : DT) (te : DE) (ρ : Env) : List D → List D → Mem → DK → Prop
  | [], acc, M, Q => Q (.lst acc) M
  | d :: r, acc, M, Q => g d ρ M fun ρ1 M1 => tt ρ1 M1 fun b M2 => if b = true then te ρ1 M2 fun x M3 => dCompL g tt te ρ r (acc ++ [x]) M3 Q else dCompL g tt te ρ r acc M2 Q
@[simp] def dComp (ti : DI) (g : DG) (tt : DT) (te : DE) (vs : List Nat) : DE := fun ρ M Q => ti ρ M fun ds M1 => ds.length ≤ 100000 ∧ dCompL g tt te (wipe ρ vs) ds [] M1 Q
/-- keys of dicts -/
def keyOf : D → Option Key
  | .int i => some (.inl i)
  | .str x => some (.inr x)
  | _ => none
@[simp] theorem keyOf_str (x : Str) : keyOf (.str x) = some (.inr x) := rfl
@[simp] theorem keyOf_int (i : Int) : keyOf (.int i) = some (.inl i) := rfl
/-- {k: v for target in iter}: keys that are new -/
def dDCompL (g : DG) (tt : DT) (tk tv : DE) (ρ : Env) : List D → List Key → List D → Mem → DK → Prop
  | [], ks, acc, M, Q => Q (.dK ks acc) M
  | d :: r, ks, acc, M, Q => g d ρ M fun ρ1 M1 => tt ρ1 M1 fun b M2 => if b = true then tk ρ1 M2 fun y M3 => tv ρ1 M3 fun x M4 => (match keyOf y with
      | some k => k ∉ ks ∧ dDCompL g tt tk tv ρ r (ks ++ [k]) (acc ++ [x]) M4 Q
      | none => False) else dDCompL g tt tk tv ρ r ks acc M2 Q
@[simp] def dDComp (ti : DI) (g : DG) (tt : DT) (tk tv : DE) (vs : List Nat) : DE := fun ρ M Q => ti ρ M fun ds M1 => ds.length ≤ 100000 ∧ dDCompL g tt tk tv (wipe ρ vs) ds [] [] M1 Q
def valD : List Key → List D → Key → Option D
  | k :: ks, d :: ds, x => if k = x then some d else valD ks ds x
  | _, _, _ => none
/-- d.get(y, z) -/
@[simp] def dGet2 (td ty tz : DE) : DE := fun ρ M Q => td ρ M fun d M1 => match d with
  | .dK ks ds => ty ρ M1 fun y M2 => tz ρ M2 fun z M3 => (match keyOf y with
    | some k => Q ((valD ks ds k).getD z) M3
    | none => False)
  | _ => False
/-- a comprehension whose list may change later -/
@[simp] def dCompN (ti : DI) (g : DG) (tt : DT) (te : DE) (vs : List Nat) : DE := fun ρ M Q => dComp ti g tt te vs ρ M fun x M1 => match x with
  | .lst xs => ∀ p, M1 p = none → Q (.ref p) (mset M1 p (.lst xs))
  | _ => False
@[simp] def dYes : DT := fun _ M Q => Q true M

/-! ### targets -/
@[simp] def gName (i : Nat) : DG := fun v ρ M Q => Q (ρ.set i (some v)) M
@[simp] def gNil : DGs := fun vs ρ M Q => match vs with
  | [] => Q ρ M
  | _ => False
@[simp] def gCons (t : DG) (u : DGs) : DGs := fun vs ρ M Q => match vs with
  | v :: r => t v ρ M fun ρ' M' => u r ρ' M' Q
  | _ => False
@[simp] def gTup (t : DGs) : DG := fun v ρ M Q => match v with
  | .tup xs => t xs ρ M Q
  | _ => False
/-- a, b, .. = a list -/
@[simp] def gLst (t : DGs) : DG := fun v ρ M Q => match asL M v with
  | some xs => t xs ρ M Q
  | none => False
/-- l[i] = v -/
@[simp] def gSub (to ti : DE) : DG := fun v ρ M Q => to ρ M fun o M1 => ti ρ M1 fun i M2 => match o, i with
  | .ref l, .int k => (match M2 l with
    | some (.lst xs) => (match ixN xs.length k with
      | some j => Q ρ (mset M2 l (.lst (xs.set j v)))
      | none => False)
    | _ => False)
  | _, _ => False

/-! ### statements -/
@[simp] def sNext : DS := fun E ρ M => E.nx ρ M
@[simp] def sSeq (t u : DS) : DS := fun E ρ M => t { E with nx := u E } ρ M
@[simp] def sBreak : DS := fun E ρ M => E.bk ρ M
@[simp] def sCont : DS := fun E ρ M => E.ct ρ M
@[simp] def sExpr (te : DE) : DS := fun E ρ M => te ρ M fun _ M1 => E.nx ρ M1
@[simp] def sRet (te : DE) : DS := fun E ρ M => te ρ M E.rt
@[simp] def sRetN : DS := fun E _ M => E.rt .non M
@[simp] def sIf (c : DT) (t u : DS) : DS := fun E ρ M => c ρ M fun b M1 => if b = true then t E ρ M1 else u E ρ M1
@[simp] def sAsg (te : DE) (g : DG) : DS := fun E ρ M => te ρ M fun x M1 => g x ρ M1 E.nx
@[simp] def sAug (i : Nat) (te : DE) (r : R2) : DS := fun E ρ M => match ρ[i]? with
  | some (some x) => te ρ M fun y M1 => r x y M1 fun z M2 => E.nx (ρ.set i (some z)) M2
  | _ => False
@[simp] def sLoop (g : DG) (b : DS) : List D → DS
  | [] => fun E ρ M => E.nx ρ M
  | d :: r => fun E ρ M => g d ρ M fun ρ1 M1 => b { E with nx := sLoop g b r E, ct := sLoop g b r E, bk := E.nx } ρ1 M1
@[simp] def sFor (ti : DI) (g : DG) (b : DS) : DS := fun E ρ M => ti ρ M fun ds M1 => sLoop g b ds E ρ M1
def sWhileN (c : DT) (b : DS) : Nat → DS
  | 0 => fun _ _ _ => False
  | n + 1 => fun E ρ M => c ρ M fun k M1 => if k = true then b { E with nx := sWhileN c b n E, ct := sWhileN c b n E, bk := E.nx } ρ M1 else E.nx ρ M1
def sWhile (c : DT) (b : DS) : DS := fun E ρ M => ∃ n, sWhileN c b n E ρ M
def sNever : DS := fun _ _ _ => False

/-- a def's start: its arguments, then its other names -/
@[simp] def start (n : Nat) (ds : List D) : Env := ds.map some ++ List.replicate (n - ds.length) none

/-- what a def hands back: lists of its own are forgotten; a list of the memory that is handed back may be one that never changes from then on -/
def Out (M' M'' : Mem) (d d' : D) : Prop := Sub M'' M' ∧ (d' = d ∨ ∃ p xs, d = .ref p ∧ M' p = some (.lst xs) ∧ M'' p = none ∧ d' = .lst xs)
def Ret (sp : Spec) (ds : List D) (M : Mem) : DK := fun d M' => ∃ d' M'', Out M' M'' d d' ∧ sp.post ds M d' M''
/-- the body's reading does what is promised -/
def Does (n : Nat) (t : DS) (k : Nat) (sp : Spec) : Prop := ∀ ds M, ds.length = k → sp.pre ds M → t { nx := fun _ M' => Ret sp ds M .non M', rt := Ret sp ds M } (start n ds) M
theorem Ret.same {sp : Spec} {ds : List D} {M M' M'' : Mem} {d : D} (s : Sub M'' M') (h : sp.post ds M d M'') : Ret sp ds M d M' := ⟨d, M'', ⟨s, .inl rfl⟩, h⟩
theorem Ret.now {sp : Spec} {ds : List D} {M M' : Mem} {d : D} (h : sp.post ds M d M') : Ret sp ds M d M' := ⟨d, M', ⟨Sub.refl _, .inl rfl⟩, h⟩
theorem Ret.fn {pre : List D → Prop} {f : List D → D} {ds : List D} {M M' : Mem} {d : D} (s : Sub M M') (h : d = f ds) : Ret (Spec.fn pre f) ds M d M' := .same s ⟨h, rfl⟩

/-! ### texts -/
theorem ofString_inj (a b : String) : (Str.ofString a = Str.ofString b) = (a = b) := by
  apply propext
  constructor
  · intro h
    rw [Str.ofString_eq_toList, Str.ofString_eq_toList] at h
    injection h with h
    have h2 : a.toList.map Char.toNat = b.toList.map Char.toNat := by
      have := congrArg Array.toList h
      simpa using this
    have inj : ∀ (l m : List Char), l.map Char.toNat = m.map Char.toNat → l = m := by
      intro l
      induction l with
      | nil => intro m h; cases m with
        | nil => rfl
        | cons _ _ => simp at h
      | cons c r ih => intro m h; cases m with
        | nil => simp at h
        | cons d s =>
          simp only [List.map_cons, List.cons.injEq] at h
          rw [ih s h.2]
          have hc : c = d := by
            apply Char.ext
            apply UInt32.toNat.inj
            exact h.1
          rw [hc]
    have h3 := inj _ _ h2
    exact String.toList_inj.mp h3
  · intro h; rw [h]
/-! ### what the operators say, case by case -/
def hasD (ys : List D) (x : D) : Bool := ys.any fun z => eqv z x
@[simp] theorem hasD_nil (x : D) : hasD [] x = false := rfl
@[simp] theorem hasD_cons (y : D) (ys : List D) (x : D) : hasD (y :: ys) x = (eqv y x || hasD ys x) := rfl
theorem beq_dec {α : Type} [DecidableEq α] (a b : α) : (a == b) = decide (a = b) := rfl
@[simp] theorem eqv_str (a b : Str) : eqv (.str a) (.str b) = decide (a = b) := by rw [eqv]; rfl
@[simp] theorem eqv_int (a b : Int) : eqv (.int a) (.int b) = decide (a = b) := by rw [eqv]; rfl
@[simp] theorem eqv_bl (a b : Bool) : eqv (.bl a) (.bl b) = decide (a = b) := by rw [eqv]; rfl
@[simp] theorem eqv_non : eqv .non .non = true := by rw [eqv]
@[simp] theorem eqv_tup (a b : List D) : eqv (.tup a) (.tup b) = eqvs a b := by rw [eqv]
@[simp] theorem eqv_lst (a b : List D) : eqv (.lst a) (.lst b) = eqvs a b := by rw [eqv]
@[simp] theorem hasD_str (acc : List Str) (x : Str) : hasD (acc.map D.str) (.str x) = decide (x ∈ acc) := by
  induction acc with
  | nil => simp
  | cons a r ih =>
    simp only [List.map_cons, hasD_cons, ih, eqv_str, List.mem_cons]
    by_cases h : a = x
    · subst h; simp
    · have h' : x ≠ a := fun e => h e.symm
      simp [h, h']
@[simp] theorem all_flat (acc : List Str) : (acc.map D.str).all flat = true := by
  induction acc with
  | nil => rfl
  | cons a r ih => rw [List.map_cons, List.all_cons, ih]; rfl
@[simp] theorem eqvs_nil : eqvs [] [] = true := by rw [eqvs]
@[simp] theorem eqvs_cons (x y : D) (xs ys : List D) : eqvs (x :: xs) (y :: ys) = (eqv x y && eqvs xs ys) := by rw [eqvs]
@[simp] theorem eqvs_nc (y : D) (ys : List D) : eqvs [] (y :: ys) = false := by rw [eqvs] <;> simp
@[simp] theorem eqvs_cn (y : D) (ys : List D) : eqvs (y :: ys) [] = false := by rw [eqvs] <;> simp
@[simp] theorem eqv_non_bl (b2 : Bool) : eqv .non (.bl b2) = false := by rw [eqv] <;> simp
@[simp] theorem eqv_non_int (i2 : Int) : eqv .non (.int i2) = false := by rw [eqv] <;> simp
@[simp] theorem eqv_non_str (s2 : Str) : eqv .non (.str s2) = false := by rw [eqv] <;> simp
@[simp] theorem eqv_non_tup (a2 : List D) : eqv .non (.tup a2) = false := by rw [eqv] <;> simp
@[simp] theorem eqv_non_lst (l2 : List D) : eqv .non (.lst l2) = false := by rw [eqv] <;> simp
@[simp] theorem eqv_bl_non (b1 : Bool) : eqv (.bl b1) .non = false := by rw [eqv] <;> simp
@[simp] theorem eqv_bl_str (b1 : Bool) (s2 : Str) : eqv (.bl b1) (.str s2) = false := by rw [eqv] <;> simp
@[simp] theorem eqv_bl_tup (b1 : Bool) (a2 : List D) : eqv (.bl b1) (.tup a2) = false := by rw [eqv] <;> simp
@[simp] theorem eqv_bl_lst (b1 : Bool) (l2 : List D) : eqv (.bl b1) (.lst l2) = false := by rw [eqv] <;> simp
@[simp] theorem eqv_int_non (i1 : Int) : eqv (.int i1) .non = false := by rw [eqv] <;> simp
@[simp] theorem eqv_int_str (i1 : Int) (s2 : Str) : eqv (.int i1) (.str s2) = false := by rw [eqv] <;> simp
@[simp] theorem eqv_int_tup (i1 : Int) (a2 : List D) : eqv (.int i1) (.tup a2) = false := by rw [eqv] <;> simp
@[simp] theorem eqv_int_lst (i1 : Int) (l2 : List D) : eqv (.int i1) (.lst l2) = false := by rw [eqv] <;> simp
@[simp] theorem eqv_str_non (s1 : Str) : eqv (.str s1) .non = false := by rw [eqv] <;> simp
@[simp] theorem eqv_str_bl (s1 : Str) (b2 : Bool) : eqv (.str s1) (.bl b2) = false := by rw [eqv] <;> simp
@[simp] theorem eqv_str_int (s1 : Str) (i2 : Int) : eqv (.str s1) (.int i2) = false := by rw [eqv] <;> simp
@[simp] theorem eqv_str_tup (s1 : Str) (a2 : List D) : eqv (.str s1) (.tup a2) = false := by rw [eqv] <;> simp
@[simp] theorem eqv_str_lst (s1 : Str) (l2 : List D) : eqv (.str s1) (.lst l2) = false := by rw [eqv] <;> simp
@[simp] theorem eqv_tup_non (a1 : List D) : eqv (.tup a1) .non = false := by rw [eqv] <;> simp
@[simp] theorem eqv_tup_bl (a1 : List D) (b2 : Bool) : eqv (.tup a1) (.bl b2) = false := by rw [eqv] <;> simp
@[simp] theorem eqv_tup_int (a1 : List D) (i2 : Int) : eqv (.tup a1) (.int i2) = false := by rw [eqv] <;> simp
@[simp] theorem eqv_tup_str (a1 : List D) (s2 : Str) : eqv (.tup a1) (.str s2) = false := by rw [eqv] <;> simp
@[simp] theorem eqv_tup_lst (a1 : List D) (l2 : List D) : eqv (.tup a1) (.lst l2) = false := by rw [eqv] <;> simp
@[simp] theorem eqv_lst_non (l1 : List D) : eqv (.lst l1) .non = false := by rw [eqv] <;> simp
@[simp] theorem eqv_lst_bl (l1 : List D) (b2 : Bool) : eqv (.lst l1) (.bl b2) = false := by rw [eqv] <;> simp
@[simp] theorem eqv_lst_int (l1 : List D) (i2 : Int) : eqv (.lst l1) (.int i2) = false := by rw [eqv] <;> simp
@[simp] theorem eqv_lst_str (l1 : List D) (s2 : Str) : eqv (.lst l1) (.str s2) = false := by rw [eqv] <;> simp
@[simp] theorem eqv_lst_tup (l1 : List D) (a2 : List D) : eqv (.lst l1) (.tup a2) = false := by rw [eqv] <;> simp
section
variable (M : Mem) (Q : DK) (B : BK)
@[simp] theorem asL_lst (xs : List D) : asL M (.lst xs) = some xs := rfl
@[simp] theorem asL_rol (xs : List D) : asL M (.rol xs) = some xs := rfl
@[simp] theorem asL_ref (a : Addr) : asL M (.ref a) = (match M a with | some (.lst xs) => some xs | _ => none) := rfl
@[simp] theorem asL_tup (xs : List D) : asL M (.tup xs) = none := rfl
@[simp] theorem asL_str (x : Str) : asL M (.str x) = none := rfl
@[simp] theorem asW_lst (xs : List D) : asW M (.lst xs) = some xs := rfl
@[simp] theorem asW_ref (a : Addr) : asW M (.ref a) = (match M a with | some (.lst xs) => some xs | _ => none) := rfl
@[simp] theorem asS_tup (xs : List D) : asS M (.tup xs) = some xs := rfl
@[simp] theorem asS_lst (xs : List D) : asS M (.lst xs) = some xs := rfl
@[simp] theorem asS_rol (xs : List D) : asS M (.rol xs) = some xs := rfl
@[simp] theorem asS_ref (a : Addr) : asS M (.ref a) = (match M a with | some (.lst xs) => some xs | _ => none) := rfl
@[simp] theorem oAdd_int (i j : Int) : oAdd (.int i) (.int j) M Q = Q (.int (i + j)) M := rfl
@[simp] theorem oAdd_str (a b : Str) : oAdd (.str a) (.str b) M Q = (a.length + b.length ≤ 100000 ∧ Q (.str (a ++ b)) M) := rfl
@[simp] theorem oAdd_tup (a b : List D) : oAdd (.tup a) (.tup b) M Q = (a.length + b.length ≤ 100000 ∧ Q (.tup (a ++ b)) M) := rfl
@[simp] theorem oAdd_ll (a b : List D) : oAdd (.lst a) (.lst b) M Q = (a.length + b.length ≤ 100000 ∧ Q (.lst (a ++ b)) M) := rfl
@[simp] theorem oAdd_rl (p : Addr) (b : List D) : oAdd (.ref p) (.lst b) M Q = (match M p with | some (.lst a) => a.length + b.length ≤ 100000 ∧ Q (.lst (a ++ b)) M | _ => False) := by
  simp only [oAdd, asW]
  cases M p with
  | none => rfl
  | some o => cases o <;> rfl
@[simp] theorem oAdd_lr (p : Addr) (a : List D) : oAdd (.lst a) (.ref p) M Q = (match M p with | some (.lst b) => a.length + b.length ≤ 100000 ∧ Q (.lst (a ++ b)) M | _ => False) := by
  simp only [oAdd, asW]
  cases M p with
  | none => rfl
  | some o => cases o <;> rfl
@[simp] theorem oSub_int (i j : Int) : oSub (.int i) (.int j) M Q = Q (.int (i - j)) M := rfl
@[simp] theorem oMul_int (i j : Int) : oMul (.int i) (.int j) M Q = ((small i ∨ small j) ∧ Q (.int (i * j)) M) := rfl
@[simp] theorem oFdiv_int (i j : Int) : oFdiv (.int i) (.int j) M Q = ((0 < j ∧ j < 2 ^ 200) ∧ Q (.int (i / j)) M) := rfl
@[simp] theorem oMod_int (i j : Int) : oMod (.int i) (.int j) M Q = (0 < j ∧ Q (.int (i % j)) M) := rfl
@[simp] theorem oMul_str (x : Str) (k : Int) : oMul (.str x) (.int k) M Q = ((0 ≤ k ∧ k ≤ 1000 ∧ 1 ≤ x.length ∧ x.length ≤ 100) ∧ Q (.str (repS k.toNat x)) M) := rfl
@[simp] theorem oMul_lst (xs : List D) (k : Int) : oMul (.lst xs) (.int k) M Q = ((0 ≤ k ∧ k ≤ 1000 ∧ xs.length ≤ 100) ∧ Q (.lst (List.replicate k.toNat xs).flatten) M) := rfl
@[simp] theorem oCatN_ll (a b : List D) : oCatN (.lst a) (.lst b) M Q = (a.length + b.length ≤ 100000 ∧ ∀ p, M p = none → Q (.ref p) (mset M p (.lst (a ++ b)))) := rfl
@[simp] theorem oAddI_int (i j : Int) : oAddI (.int i) (.int j) M Q = Q (.int (i + j)) M := rfl
@[simp] theorem oMax_int (i j : Int) : oMax (.int i) (.int j) M Q = Q (.int (if j > i then j else i)) M := rfl
@[simp] theorem oRep_str (x : Str) (k : Int) : oRep (.str x) (.int k) M Q = ((1 ≤ k ∧ k ≤ 1000 ∧ 1 ≤ x.length ∧ x.length ≤ 100) ∧ Q (.str (repS k.toNat x)) M) := rfl
@[simp] theorem oPow_int (i j : Int) : oPow (.int i) (.int j) M Q = ((0 ≤ j ∧ j ≤ 1000000 ∧ i.natAbs < 2 ^ 64) ∧ Q (.int (i ^ j.toNat)) M) := rfl
@[simp] theorem oNeg_int (i : Int) : oNeg (.int i) M Q = Q (.int (-i)) M := rfl
@[simp] theorem oLt_int (i j : Int) : oLt (.int i) (.int j) M Q = Q (.bl (decide (i < j))) M := rfl
@[simp] theorem oLe_int (i j : Int) : oLe (.int i) (.int j) M Q = Q (.bl (decide (i ≤ j))) M := rfl
@[simp] theorem oGt_int (i j : Int) : oGt (.int i) (.int j) M Q = Q (.bl (decide (j < i))) M := rfl
@[simp] theorem oGe_int (i j : Int) : oGe (.int i) (.int j) M Q = Q (.bl (decide (j ≤ i))) M := rfl
@[simp] theorem eqB_str (a b : Str) : eqB (.str a) (.str b) M B = B (decide (a = b)) M := rfl
@[simp] theorem eqB_int (a b : Int) : eqB (.int a) (.int b) M B = B (decide (a = b)) M := rfl
@[simp] theorem eqB_bl (a b : Bool) : eqB (.bl a) (.bl b) M B = B (decide (a = b)) M := rfl
@[simp] theorem asC_tup (xs : List D) : asC M (.tup xs) = .tup xs := rfl
@[simp] theorem asC_lst (xs : List D) : asC M (.lst xs) = .lst xs := rfl
@[simp] theorem asC_str (x : Str) : asC M (.str x) = .str x := rfl
@[simp] theorem asC_int (x : Int) : asC M (.int x) = .int x := rfl
@[simp] theorem asC_bl (x : Bool) : asC M (.bl x) = .bl x := rfl
@[simp] theorem asC_non : asC M .non = .non := rfl
@[simp] theorem asC_ref (a : Addr) : asC M (.ref a) = (match M a with | some (.lst xs) => .lst xs | _ => .ref a) := rfl
@[simp] theorem eqB_non_non : eqB .non .non M B = (cmpOk (asC M .non) = true ∧ cmpOk (asC M .non) = true ∧ B (eqv (asC M .non) (asC M .non)) M) := rfl
@[simp] theorem eqB_non_bl (b2 : Bool) : eqB .non (.bl b2) M B = (cmpOk (asC M .non) = true ∧ cmpOk (asC M (.bl b2)) = true ∧ B (eqv (asC M .non) (asC M (.bl b2))) M) := rfl
@[simp] theorem eqB_non_int (i2 : Int) : eqB .non (.int i2) M B = (cmpOk (asC M .non) = true ∧ cmpOk (asC M (.int i2)) = true ∧ B (eqv (asC M .non) (asC M (.int i2))) M) := rfl
@[simp] theorem eqB_non_str (s2 : Str) : eqB .non (.str s2) M B = (cmpOk (asC M .non) = true ∧ cmpOk (asC M (.str s2)) = true ∧ B (eqv (asC M .non) (asC M (.str s2))) M) := rfl
@[simp] theorem eqB_non_tup (a2 : List D) : eqB .non (.tup a2) M B = (cmpOk (asC M .non) = true ∧ cmpOk (asC M (.tup a2)) = true ∧ B (eqv (asC M .non) (asC M (.tup a2))) M) := rfl
@[simp] theorem eqB_non_lst (l2 : List D) : eqB .non (.lst l2) M B = (cmpOk (asC M .non) = true ∧ cmpOk (asC M (.lst l2)) = true ∧ B (eqv (asC M .non) (asC M (.lst l2))) M) := rfl
@[simp] theorem eqB_non_ref (p2 : Addr) : eqB .non (.ref p2) M B = (cmpOk (asC M .non) = true ∧ cmpOk (asC M (.ref p2)) = true ∧ B (eqv (asC M .non) (asC M (.ref p2))) M) := rfl
@[simp] theorem eqB_bl_non (b1 : Bool) : eqB (.bl b1) .non M B = (cmpOk (asC M (.bl b1)) = true ∧ cmpOk (asC M .non) = true ∧ B (eqv (asC M (.bl b1)) (asC M .non)) M) := rfl
@[simp] theorem eqB_bl_int (b1 : Bool) (i2 : Int) : eqB (.bl b1) (.int i2) M B = (cmpOk (asC M (.bl b1)) = true ∧ cmpOk (asC M (.int i2)) = true ∧ B (eqv (asC M (.bl b1)) (asC M (.int i2))) M) := rfl
@[simp] theorem eqB_bl_str (b1 : Bool) (s2 : Str) : eqB (.bl b1) (.str s2) M B = (cmpOk (asC M (.bl b1)) = true ∧ cmpOk (asC M (.str s2)) = true ∧ B (eqv (asC M (.bl b1)) (asC M (.str s2))) M) := rfl
@[simp] theorem eqB_bl_tup (b1 : Bool) (a2 : List D) : eqB (.bl b1) (.tup a2) M B = (cmpOk (asC M (.bl b1)) = true ∧ cmpOk (asC M (.tup a2)) = true ∧ B (eqv (asC M (.bl b1)) (asC M (.tup a2))) M) := rfl
@[simp] theorem eqB_bl_lst (b1 : Bool) (l2 : List D) : eqB (.bl b1) (.lst l2) M B = (cmpOk (asC M (.bl b1)) = true ∧ cmpOk (asC M (.lst l2)) = true ∧ B (eqv (asC M (.bl b1)) (asC M (.lst l2))) M) := rfl
@[simp] theorem eqB_bl_ref (b1 : Bool) (p2 : Addr) : eqB (.bl b1) (.ref p2) M B = (cmpOk (asC M (.bl b1)) = true ∧ cmpOk (asC M (.ref p2)) = true ∧ B (eqv (asC M (.bl b1)) (asC M (.ref p2))) M) := rfl
@[simp] theorem eqB_int_non (i1 : Int) : eqB (.int i1) .non M B = (cmpOk (asC M (.int i1)) = true ∧ cmpOk (asC M .non) = true ∧ B (eqv (asC M (.int i1)) (asC M .non)) M) := rfl
@[simp] theorem eqB_int_bl (i1 : Int) (b2 : Bool) : eqB (.int i1) (.bl b2) M B = (cmpOk (asC M (.int i1)) = true ∧ cmpOk (asC M (.bl b2)) = true ∧ B (eqv (asC M (.int i1)) (asC M (.bl b2))) M) := rfl
@[simp] theorem eqB_int_str (i1 : Int) (s2 : Str) : eqB (.int i1) (.str s2) M B = (cmpOk (asC M (.int i1)) = true ∧ cmpOk (asC M (.str s2)) = true ∧ B (eqv (asC M (.int i1)) (asC M (.str s2))) M) := rfl
@[simp] theorem eqB_int_tup (i1 : Int) (a2 : List D) : eqB (.int i1) (.tup a2) M B = (cmpOk (asC M (.int i1)) = true ∧ cmpOk (asC M (.tup a2)) = true ∧ B (eqv (asC M (.int i1)) (asC M (.tup a2))) M) := rfl
@[simp] theorem eqB_int_lst (i1 : Int) (l2 : List D) : eqB (.int i1) (.lst l2) M B = (cmpOk (asC M (.int i1)) = true ∧ cmpOk (asC M (.lst l2)) = true ∧ B (eqv (asC M (.int i1)) (asC M (.lst l2))) M) := rfl
@[simp] theorem eqB_int_ref (i1 : Int) (p2 : Addr) : eqB (.int i1) (.ref p2) M B = (cmpOk (asC M (.int i1)) = true ∧ cmpOk (asC M (.ref p2)) = true ∧ B (eqv (asC M (.int i1)) (asC M (.ref p2))) M) := rfl
@[simp] theorem eqB_str_non (s1 : Str) : eqB (.str s1) .non M B = (cmpOk (asC M (.str s1)) = true ∧ cmpOk (asC M .non) = true ∧ B (eqv (asC M (.str s1)) (asC M .non)) M) := rfl
@[simp] theorem eqB_str_bl (s1 : Str) (b2 : Bool) : eqB (.str s1) (.bl b2) M B = (cmpOk (asC M (.str s1)) = true ∧ cmpOk (asC M (.bl b2)) = true ∧ B (eqv (asC M (.str s1)) (asC M (.bl b2))) M) := rfl
@[simp] theorem eqB_str_int (s1 : Str) (i2 : Int) : eqB (.str s1) (.int i2) M B = (cmpOk (asC M (.str s1)) = true ∧ cmpOk (asC M (.int i2)) = true ∧ B (eqv (asC M (.str s1)) (asC M (.int i2))) M) := rfl
@[simp] theorem eqB_str_tup (s1 : Str) (a2 : List D) : eqB (.str s1) (.tup a2) M B = (cmpOk (asC M (.str s1)) = true ∧ cmpOk (asC M (.tup a2)) = true ∧ B (eqv (asC M (.str s1)) (asC M (.tup a2))) M) := rfl
@[simp] theorem eqB_str_lst (s1 : Str) (l2 : List D) : eqB (.str s1) (.lst l2) M B = (cmpOk (asC M (.str s1)) = true ∧ cmpOk (asC M (.lst l2)) = true ∧ B (eqv (asC M (.str s1)) (asC M (.lst l2))) M) := rfl
@[simp] theorem eqB_str_ref (s1 : Str) (p2 : Addr) : eqB (.str s1) (.ref p2) M B = (cmpOk (asC M (.str s1)) = true ∧ cmpOk (asC M (.ref p2)) = true ∧ B (eqv (asC M (.str s1)) (asC M (.ref p2))) M) := rfl
@[simp] theorem eqB_tup_non (a1 : List D) : eqB (.tup a1) .non M B = (cmpOk (asC M (.tup a1)) = true ∧ cmpOk (asC M .non) = true ∧ B (eqv (asC M (.tup a1)) (asC M .non)) M) := rfl
@[simp] theorem eqB_tup_bl (a1 : List D) (b2 : Bool) : eqB (.tup a1) (.bl b2) M B = (cmpOk (asC M (.tup a1)) = true ∧ cmpOk (asC M (.bl b2)) = true ∧ B (eqv (asC M (.tup a1)) (asC M (.bl b2))) M) := rfl
@[simp] theorem eqB_tup_int (a1 : List D) (i2 : Int) : eqB (.tup a1) (.int i2) M B = (cmpOk (asC M (.tup a1)) = true ∧ cmpOk (asC M (.int i2)) = true ∧ B (eqv (asC M (.tup a1)) (asC M (.int i2))) M) := rfl
@[simp] theorem eqB_tup_str (a1 : List D) (s2 : Str) : eqB (.tup a1) (.str s2) M B = (cmpOk (asC M (.tup a1)) = true ∧ cmpOk (asC M (.str s2)) = true ∧ B (eqv (asC M (.tup a1)) (asC M (.str s2))) M) := rfl
@[simp] theorem eqB_tup_tup (a1 : List D) (a2 : List D) : eqB (.tup a1) (.tup a2) M B = (cmpOk (asC M (.tup a1)) = true ∧ cmpOk (asC M (.tup a2)) = true ∧ B (eqv (asC M (.tup a1)) (asC M (.tup a2))) M) := rfl
@[simp] theorem eqB_tup_lst (a1 : List D) (l2 : List D) : eqB (.tup a1) (.lst l2) M B = (cmpOk (asC M (.tup a1)) = true ∧ cmpOk (asC M (.lst l2)) = true ∧ B (eqv (asC M (.tup a1)) (asC M (.lst l2))) M) := rfl
@[simp] theorem eqB_tup_ref (a1 : List D) (p2 : Addr) : eqB (.tup a1) (.ref p2) M B = (cmpOk (asC M (.tup a1)) = true ∧ cmpOk (asC M (.ref p2)) = true ∧ B (eqv (asC M (.tup a1)) (asC M (.ref p2))) M) := rfl
@[simp] theorem eqB_lst_non (l1 : List D) : eqB (.lst l1) .non M B = (cmpOk (asC M (.lst l1)) = true ∧ cmpOk (asC M .non) = true ∧ B (eqv (asC M (.lst l1)) (asC M .non)) M) := rfl
@[simp] theorem eqB_lst_bl (l1 : List D) (b2 : Bool) : eqB (.lst l1) (.bl b2) M B = (cmpOk (asC M (.lst l1)) = true ∧ cmpOk (asC M (.bl b2)) = true ∧ B (eqv (asC M (.lst l1)) (asC M (.bl b2))) M) := rfl
@[simp] theorem eqB_lst_int (l1 : List D) (i2 : Int) : eqB (.lst l1) (.int i2) M B = (cmpOk (asC M (.lst l1)) = true ∧ cmpOk (asC M (.int i2)) = true ∧ B (eqv (asC M (.lst l1)) (asC M (.int i2))) M) := rfl
@[simp] theorem eqB_lst_str (l1 : List D) (s2 : Str) : eqB (.lst l1) (.str s2) M B = (cmpOk (asC M (.lst l1)) = true ∧ cmpOk (asC M (.str s2)) = true ∧ B (eqv (asC M (.lst l1)) (asC M (.str s2))) M) := rfl
@[simp] theorem eqB_lst_tup (l1 : List D) (a2 : List D) : eqB (.lst l1) (.tup a2) M B = (cmpOk (asC M (.lst l1)) = true ∧ cmpOk (asC M (.tup a2)) = true ∧ B (eqv (asC M (.lst l1)) (asC M (.tup a2))) M) := rfl
@[simp] theorem eqB_lst_lst (l1 : List D) (l2 : List D) : eqB (.lst l1) (.lst l2) M B = (cmpOk (asC M (.lst l1)) = true ∧ cmpOk (asC M (.lst l2)) = true ∧ B (eqv (asC M (.lst l1)) (asC M (.lst l2))) M) := rfl
@[simp] theorem eqB_lst_ref (l1 : List D) (p2 : Addr) : eqB (.lst l1) (.ref p2) M B = (cmpOk (asC M (.lst l1)) = true ∧ cmpOk (asC M (.ref p2)) = true ∧ B (eqv (asC M (.lst l1)) (asC M (.ref p2))) M) := rfl
@[simp] theorem eqB_ref_non (p1 : Addr) : eqB (.ref p1) .non M B = (cmpOk (asC M (.ref p1)) = true ∧ cmpOk (asC M .non) = true ∧ B (eqv (asC M (.ref p1)) (asC M .non)) M) := rfl
@[simp] theorem eqB_ref_bl (p1 : Addr) (b2 : Bool) : eqB (.ref p1) (.bl b2) M B = (cmpOk (asC M (.ref p1)) = true ∧ cmpOk (asC M (.bl b2)) = true ∧ B (eqv (asC M (.ref p1)) (asC M (.bl b2))) M) := rfl
@[simp] theorem eqB_ref_int (p1 : Addr) (i2 : Int) : eqB (.ref p1) (.int i2) M B = (cmpOk (asC M (.ref p1)) = true ∧ cmpOk (asC M (.int i2)) = true ∧ B (eqv (asC M (.ref p1)) (asC M (.int i2))) M) := rfl
@[simp] theorem eqB_ref_str (p1 : Addr) (s2 : Str) : eqB (.ref p1) (.str s2) M B = (cmpOk (asC M (.ref p1)) = true ∧ cmpOk (asC M (.str s2)) = true ∧ B (eqv (asC M (.ref p1)) (asC M (.str s2))) M) := rfl
@[simp] theorem eqB_ref_tup (p1 : Addr) (a2 : List D) : eqB (.ref p1) (.tup a2) M B = (cmpOk (asC M (.ref p1)) = true ∧ cmpOk (asC M (.tup a2)) = true ∧ B (eqv (asC M (.ref p1)) (asC M (.tup a2))) M) := rfl
@[simp] theorem eqB_ref_lst (p1 : Addr) (l2 : List D) : eqB (.ref p1) (.lst l2) M B = (cmpOk (asC M (.ref p1)) = true ∧ cmpOk (asC M (.lst l2)) = true ∧ B (eqv (asC M (.ref p1)) (asC M (.lst l2))) M) := rfl
@[simp] theorem eqB_ref_ref (p1 : Addr) (p2 : Addr) : eqB (.ref p1) (.ref p2) M B = (cmpOk (asC M (.ref p1)) = true ∧ cmpOk (asC M (.ref p2)) = true ∧ B (eqv (asC M (.ref p1)) (asC M (.ref p2))) M) := rfl
@[simp] theorem oIsN_non : oIsN .non M Q = Q (.bl true) M := rfl
@[simp] theorem oNotN_non : oNotN .non M Q = Q (.bl false) M := rfl
@[simp] theorem oIsN_bl (b1 : Bool) : oIsN (.bl b1) M Q = Q (.bl false) M := rfl
@[simp] theorem oNotN_bl (b1 : Bool) : oNotN (.bl b1) M Q = Q (.bl true) M := rfl
@[simp] theorem oIsN_int (i1 : Int) : oIsN (.int i1) M Q = Q (.bl false) M := rfl
@[simp] theorem oNotN_int (i1 : Int) : oNotN (.int i1) M Q = Q (.bl true) M := rfl
@[simp] theorem oIsN_str (s1 : Str) : oIsN (.str s1) M Q = Q (.bl false) M := rfl
@[simp] theorem oNotN_str (s1 : Str) : oNotN (.str s1) M Q = Q (.bl true) M := rfl
@[simp] theorem oIsN_tup (a1 : List D) : oIsN (.tup a1) M Q = Q (.bl false) M := rfl
@[simp] theorem oNotN_tup (a1 : List D) : oNotN (.tup a1) M Q = Q (.bl true) M := rfl
@[simp] theorem oIsN_lst (l1 : List D) : oIsN (.lst l1) M Q = Q (.bl false) M := rfl
@[simp] theorem oNotN_lst (l1 : List D) : oNotN (.lst l1) M Q = Q (.bl true) M := rfl
@[simp] theorem oIsN_ref (p1 : Addr) : oIsN (.ref p1) M Q = Q (.bl false) M := rfl
@[simp] theorem oNotN_ref (p1 : Addr) : oNotN (.ref p1) M Q = Q (.bl true) M := rfl
@[simp] theorem oIsN_rol (r1 : List D) : oIsN (.rol r1) M Q = Q (.bl false) M := rfl
@[simp] theorem oNotN_rol (r1 : List D) : oNotN (.rol r1) M Q = Q (.bl true) M := rfl
@[simp] theorem oIsN_dK (ks : List Key) (vs : List D) : oIsN (.dK ks vs) M Q = Q (.bl false) M := rfl
@[simp] theorem oNotN_dK (ks : List Key) (vs : List D) : oNotN (.dK ks vs) M Q = Q (.bl true) M := rfl
@[simp] theorem oIsN_dT (ks : List (List Key)) (vs : List D) : oIsN (.dT ks vs) M Q = Q (.bl false) M := rfl
@[simp] theorem oNotN_dT (ks : List (List Key)) (vs : List D) : oNotN (.dT ks vs) M Q = Q (.bl true) M := rfl
@[simp] theorem oIsN_ins (C : Addr) (ns : List Str) (vs : List D) : oIsN (.ins C ns vs) M Q = Q (.bl false) M := rfl
@[simp] theorem oNotN_ins (C : Addr) (ns : List Str) (vs : List D) : oNotN (.ins C ns vs) M Q = Q (.bl true) M := rfl
@[simp] theorem inB_str (a b : Str) : inB (.str a) (.str b) M B = (∃ c, a = ⟨#[c]⟩ ∧ B (decide (c ∈ b.cps.toList)) M) := rfl
@[simp] theorem inB_tup (x : D) (ys : List D) : inB x (.tup ys) M B = (flat x = true ∧ ys.all flat = true ∧ B (hasD ys x) M) := by cases x <;> rfl
@[simp] theorem inB_lst (x : D) (ys : List D) : inB x (.lst ys) M B = (flat x = true ∧ ys.all flat = true ∧ B (hasD ys x) M) := by cases x <;> rfl
@[simp] theorem inB_rol (x : D) (ys : List D) : inB x (.rol ys) M B = (flat x = true ∧ ys.all flat = true ∧ B (hasD ys x) M) := by cases x <;> rfl
@[simp] theorem inB_ref (x : D) (a : Addr) : inB x (.ref a) M B = (match M a with | some (.lst ys) => flat x = true ∧ ys.all flat = true ∧ B (hasD ys x) M | _ => False) := by
  cases x <;> (simp only [inB, asS, asL]; cases M a with
    | none => rfl
    | some o => cases o <;> rfl)
@[simp] theorem oIx_str (s : Str) (i : Int) : oIx (.str s) (.int i) M Q = (s.length ≤ 100000 ∧ (match atI s.cps.toList i with | some c => Q (.str ⟨#[c]⟩) M | none => False)) := rfl
@[simp] theorem oIx_tup (xs : List D) (i : Int) : oIx (.tup xs) (.int i) M Q = (match atI xs i with | some v => Q v M | none => False) := rfl
@[simp] theorem oIx_lst (xs : List D) (i : Int) : oIx (.lst xs) (.int i) M Q = (match atI xs i with | some v => Q v M | none => False) := rfl
@[simp] theorem oIx_rol (xs : List D) (i : Int) : oIx (.rol xs) (.int i) M Q = (match atI xs i with | some v => Q v M | none => False) := rfl
@[simp] theorem oIx_ref (a : Addr) (i : Int) : oIx (.ref a) (.int i) M Q = (match M a with | some (.lst xs) => (match atI xs i with | some v => Q v M | none => False) | _ => False) := by
  simp only [oIx, asS, asL]
  cases M a with
  | none => rfl
  | some o => cases o <;> rfl
@[simp] theorem oLen_str (s : Str) : oLen (.str s) M Q = (s.length ≤ 100000 ∧ Q (.int s.length) M) := rfl
@[simp] theorem oLen_tup (xs : List D) : oLen (.tup xs) M Q = Q (.int xs.length) M := rfl
@[simp] theorem oLen_lst (xs : List D) : oLen (.lst xs) M Q = Q (.int xs.length) M := rfl
@[simp] theorem oLen_rol (xs : List D) : oLen (.rol xs) M Q = Q (.int xs.length) M := rfl
@[simp] theorem oLen_ref (a : Addr) : oLen (.ref a) M Q = (match M a with | some (.lst xs) => Q (.int xs.length) M | _ => False) := by
  simp only [oLen, asS, asL]
  cases M a with
  | none => rfl
  | some o => cases o <;> rfl
@[simp] theorem oCut_str (s : Str) (lo hi : Option Int) : oCut (.str s) lo hi M Q = (s.length ≤ 100000 ∧ Q (.str ⟨(cut s.cps.toList lo hi).toArray⟩) M) := rfl
@[simp] theorem oCut_tup (xs : List D) (lo hi : Option Int) : oCut (.tup xs) lo hi M Q = Q (.tup (cut xs lo hi)) M := rfl
@[simp] theorem oCut_lst (xs : List D) (lo hi : Option Int) : oCut (.lst xs) lo hi M Q = Q (.lst (cut xs lo hi)) M := rfl
@[simp] theorem oCut_rol (xs : List D) (lo hi : Option Int) : oCut (.rol xs) lo hi M Q = Q (.lst (cut xs lo hi)) M := rfl
@[simp] theorem oCut_ref (a : Addr) (lo hi : Option Int) : oCut (.ref a) lo hi M Q = (match M a with | some (.lst xs) => Q (.lst (cut xs lo hi)) M | _ => False) := by
  simp only [oCut, asL]
  cases M a with
  | none => rfl
  | some o => cases o <;> rfl
@[simp] theorem oAbs_int (i : Int) : oAbs (.int i) M Q = Q (.int (if i < 0 then -i else i)) M := rfl
@[simp] theorem oInt_int (i : Int) : oInt (.int i) M Q = Q (.int i) M := rfl
@[simp] theorem oInt_bl (b : Bool) : oInt (.bl b) M Q = Q (.int (if b then 1 else 0)) M := rfl
@[simp] theorem oStr_int (i : Int) : oStr (.int i) M Q = (i.natAbs < 2 ^ 200 ∧ Q (.str (toString i)) M) := rfl
@[simp] theorem oTuple_tup (xs : List D) : oTuple (.tup xs) M Q = Q (.tup xs) M := rfl
@[simp] theorem oTuple_lst (xs : List D) : oTuple (.lst xs) M Q = Q (.tup xs) M := rfl
@[simp] theorem oTuple_rol (xs : List D) : oTuple (.rol xs) M Q = Q (.tup xs) M := rfl
@[simp] theorem oTuple_ref (a : Addr) : oTuple (.ref a) M Q = (match M a with | some (.lst xs) => Q (.tup xs) M | _ => False) := by
  simp only [oTuple, asL]
  cases M a with
  | none => rfl
  | some o => cases o <;> rfl
@[simp] theorem oList_tup (xs : List D) : oList (.tup xs) M Q = Q (.lst xs) M := rfl
@[simp] theorem oList_lst (xs : List D) : oList (.lst xs) M Q = Q (.lst xs) M := rfl
@[simp] theorem oList_rol (xs : List D) : oList (.rol xs) M Q = Q (.lst xs) M := rfl
@[simp] theorem oList_ref (a : Addr) : oList (.ref a) M Q = (match M a with | some (.lst xs) => Q (.lst xs) M | _ => False) := by
  simp only [oList, asS, asL]
  cases M a with
  | none => rfl
  | some o => cases o <;> rfl
@[simp] theorem oAll_lst (xs : List D) : oAll (.lst xs) M Q = (match dBools xs with | some bs => Q (.bl (bs.all id)) M | none => False) := rfl
@[simp] theorem oAny_lst (xs : List D) : oAny (.lst xs) M Q = (match dBools xs with | some bs => Q (.bl (bs.any id)) M | none => False) := rfl
@[simp] theorem oSum_lst (xs : List D) : oSum (.lst xs) M Q = (match dInts xs with | some bs => Q (.int bs.sum) M | none => False) := rfl
@[simp] theorem mAppend_ref (l : Addr) (x : D) : mAppend (.ref l) x M Q = (match M l with | some (.lst xs) => xs.length < 100000 ∧ Q .non (mset M l (.lst (xs ++ [x]))) | _ => False) := rfl
@[simp] theorem mPop_ref (l : Addr) : mPop (.ref l) M Q = (match M l with | some (.lst xs) => (match xs[xs.length - 1]? with | some y => Q y (mset M l (.lst xs.dropLast)) | none => False) | _ => False) := rfl
@[simp] theorem mPopAt_ref (l : Addr) (i : Int) : mPopAt (.ref l) (.int i) M Q = (match M l with | some (.lst xs) => (-(2 ^ 63) ≤ i ∧ i < 2 ^ 63) ∧ (match ixN xs.length i with | some k => (match xs[k]? with | some y => Q y (mset M l (.lst (xs.eraseIdx k))) | none => False) | none => False) | _ => False) := rfl
@[simp] theorem tyOf_non : tyOf M .non = "NoneType" := rfl
@[simp] theorem tyOf_bl (b : Bool) : tyOf M (.bl b) = "bool" := rfl
@[simp] theorem tyOf_int (b : Int) : tyOf M (.int b) = "int" := rfl
@[simp] theorem tyOf_str (b : Str) : tyOf M (.str b) = "str" := rfl
@[simp] theorem tyOf_tup (b : List D) : tyOf M (.tup b) = "tuple" := rfl
@[simp] theorem tyOf_lst (b : List D) : tyOf M (.lst b) = "list" := rfl
@[simp] theorem tyOf_dK (ks : List Key) (b : List D) : tyOf M (.dK ks b) = "dict" := rfl
@[simp] theorem tyOf_dT (ks : List (List Key)) (b : List D) : tyOf M (.dT ks b) = "dict" := rfl
@[simp] theorem tyOf_ref (a : Addr) : tyOf M (.ref a) = (match M a with | some (.lst _) => "list" | some (.dK _ _) => "dict" | some (.dT _ _) => "dict" | _ => "") := rfl
@[simp] theorem flat_non : flat .non = true := rfl
@[simp] theorem flat_bl (b : Bool) : flat (.bl b) = true := rfl
@[simp] theorem flat_int (b : Int) : flat (.int b) = true := rfl
@[simp] theorem flat_str (b : Str) : flat (.str b) = true := rfl
@[simp] theorem dBools_nil : dBools [] = some [] := rfl
@[simp] theorem dBools_cons (b : Bool) (r : List D) : dBools (.bl b :: r) = (dBools r).map (b :: ·) := rfl
@[simp] theorem dInts_nil : dInts [] = some [] := rfl
@[simp] theorem dInts_cons (b : Int) (r : List D) : dInts (.int b :: r) = (dInts r).map (b :: ·) := rfl
@[simp] theorem enumD_nil (n : Nat) : enumD n [] = [] := rfl
@[simp] theorem enumD_cons (n : Nat) (x : D) (xs : List D) : enumD n (x :: xs) = .tup [.int (n : Int), x] :: enumD (n + 1) xs := rfl
@[simp] theorem zipD_nil (ys : List D) : zipD [] ys = [] := rfl
@[simp] theorem zipD_nil' (x : D) (xs : List D) : zipD (x :: xs) [] = [] := rfl
@[simp] theorem zipD_cons (x y : D) (xs ys : List D) : zipD (x :: xs) (y :: ys) = .tup [x, y] :: zipD xs ys := rfl
end
end DL
/-! DLS: the readings of DLP are kept by the hand layer's. -/
namespace DL
open PySem PySem.Spec PyProof.Rows L2

/-- the written part, and the places that nothing may name -/
structure Fg where
  K : PySem.W.Frag
  P : Addr → Prop
abbrev St := L2.St
theorem szLe {n : Nat} (h : n ≤ 100000) : n ≤ sizeLine := Nat.le_trans h (by decide)
theorem szLt {n : Nat} (h : n < 100000) : n < sizeLine := Nat.lt_of_lt_of_le h (by decide)

/-! ### what stands for what -/
def KT (K : Fg) (a : Addr) (xs : List V) : Prop := ∃ (o : Obj) (its : Array Value) (n : Nat), K.K.lookup a = some o ∧ o.cls = .type "tuple" ∧ o.data = .seq its n ∧ its.size ≤ sizeLine ∧ Vals xs its.toList
def KL (K : Fg) (a : Addr) (xs : List V) : Prop := ∃ (o : Obj) (its : Array Value) (n : Nat), K.K.lookup a = some o ∧ o.cls = .type "list" ∧ o.dict = none ∧ o.data = .seq its n ∧ its.size ≤ sizeLine ∧ Vals xs its.toList
def TqT (K : Fg) (H : Hp) (M : Mem) (a : Addr) (xs : List V) : Prop := (H a = some (.tup xs) ∧ M a = none ∧ ¬ K.P a) ∨ KT K a xs
def TqR (K : Fg) (H : Hp) (M : Mem) (a : Addr) (xs : List V) : Prop := (Rd H a (.lst xs) ∧ M a = none ∧ ¬ K.P a) ∨ KL K a xs
theorem TqT.sq {K : Fg} {H : Hp} {M : Mem} {a : Addr} {xs : List V} (h : TqT K H M a xs) : SqT K.K H a xs := by
  rcases h with ⟨h, _⟩ | h
  · exact .inl (.inl h)
  · exact .inr h
theorem TqR.sq {K : Fg} {H : Hp} {M : Mem} {a : Addr} {xs : List V} (h : TqR K H M a xs) : SqL K.K H a xs := by
  rcases h with ⟨h, _⟩ | h
  · exact .inl h
  · exact .inr h
mutual
def Rep (K : Fg) (H : Hp) (M : Mem) : D → V → Prop
  | .non, v => v = .non
  | .bl b, v => v = .bl b
  | .int i, v => v = .int i
  | .str x, v => v = .str x
  | .ref a, v => v = .ref a
  | .tup ds, v => ∃ a vs, v = .ref a ∧ TqT K H M a vs ∧ Reps K H M ds vs
  | .lst ds, v => ∃ a vs, v = .ref a ∧ (H a = some (.lst vs) ∧ M a = none ∧ ¬ K.P a) ∧ Reps K H M ds vs
  | .rol ds, v => ∃ a vs, v = .ref a ∧ TqR K H M a vs ∧ Reps K H M ds vs
  | .dK ks ds, v => ∃ a vs, v = .ref a ∧ (H a = some (.dK (ks.zip vs)) ∧ M a = none ∧ ¬ K.P a) ∧ ks.length = vs.length ∧ Reps K H M ds vs
  | .dT ks ds, v => ∃ a vs, v = .ref a ∧ (H a = some (.dT (ks.zip vs)) ∧ M a = none ∧ ¬ K.P a) ∧ ks.length = vs.length ∧ Reps K H M ds vs
  | .ins C ns ds, v => ∃ a dx vs, v = .ref a ∧ (H a = some (.ins C dx (ns.zip vs)) ∧ M a = none ∧ ¬ K.P a) ∧ ns.length = vs.length ∧ Reps K H M ds vs
  | .ty n, v => v = .ty n
  | .cls C, v => v = .ref C
def Reps (K : Fg) (H : Hp) (M : Mem) : List D → List V → Prop
  | [], vs => vs = []
  | d :: ds, vs => ∃ v r, vs = v :: r ∧ Rep K H M d v ∧ Reps K H M ds r
end
/-- the contents of a deck, by its kind -/
def DeckI : Nat → Option HO → List (Option HO) → List Addr → List (Option HO) → List Addr → Nat → Prop
  | 0, o, os, ps, _, _, b => ∃ (dg cl : Addr) (n : Int) (ds cs : List Int), ps = [dg, cl] ∧ dg ≠ cl ∧ o = some (.lst [.ref dg, .ref cl, .int n]) ∧ os = [some (.lst (ds.map V.int)), some (.lst (cs.map V.int))] ∧
      (∀ x ∈ ds, 0 ≤ x ∧ x < 2147483629) ∧ (∀ x ∈ cs, 0 ≤ x ∧ x < 2147483629) ∧ cs ≠ [] ∧ 0 ≤ n ∧ n + b ≤ 2 ^ 40
  | 1, o, os, ps, fos, fs, b => ∃ (ca rs : Addr) (n : Int) (cs rr : List Int), ps = [rs] ∧ fs = [ca] ∧ o = some (.lst [.ref ca, .int n, .ref rs]) ∧ os = [some (.lst (rr.map V.int))] ∧ fos = [some (.lst (cs.map V.int))] ∧
      (∀ x ∈ cs, 0 ≤ x) ∧ (∀ x ∈ rr, 0 ≤ x) ∧ cs ≠ [] ∧ rr.length = cs.length ∧ 0 ≤ n ∧ n + b ≤ 2 ^ 40
  | _, _, _, _, _, _, _ => False
/-- a deck: its own parts, and lists that never change -/
def DeckRep (K : Fg) (kind : Nat) (H : Hp) (M : Mem) (a : Addr) (b : Nat) : Prop := ∃ ps fs : List Addr, (∀ p ∈ ps, M p = some (.part a) ∧ p ≠ a) ∧ (∀ f ∈ fs, (∃ o, H f = some o) ∧ M f = none ∧ ¬ K.P f) ∧ DeckI kind (H a) (ps.map H) ps (fs.map H) fs b
def ORep (K : Fg) (H : Hp) (M : Mem) (a : Addr) : MO → Prop
  | .lst ds => ∃ vs, H a = some (.lst vs) ∧ Reps K H M ds vs
  | .dK ks ds => ∃ vs, H a = some (.dK (ks.zip vs)) ∧ ks.length = vs.length ∧ Reps K H M ds vs
  | .dT ks ds => ∃ vs, H a = some (.dT (ks.zip vs)) ∧ ks.length = vs.length ∧ Reps K H M ds vs
  | .ins C ns ds => ∃ dx vs, H a = some (.ins C dx (ns.zip vs)) ∧ ns.length = vs.length ∧ Reps K H M ds vs
  | .deck kind b => DeckRep K kind H M a b
  | .part _ => ∃ o, H a = some o
structure MRep (K : Fg) (H : Hp) (M : Mem) : Prop where
  obj : ∀ a o, M a = some o → ORep K H M a o
  prv : ∀ a, K.P a → (∃ o, H a = some o) ∧ M a = none
/-- what is tracked and not of the memory stays so -/
def Fr (H : Hp) (M : Mem) (H' : Hp) (M' : Mem) : Prop := ∀ a o, H a = some o → M a = none → H' a = some o ∧ M' a = none
theorem Fr.refl (H : Hp) (M : Mem) : Fr H M H M := fun _ _ h m => ⟨h, m⟩
theorem Fr.trans {H H1 H2 : Hp} {M M1 M2 : Mem} (a : Fr H M H1 M1) (b : Fr H1 M1 H2 M2) : Fr H M H2 M2 := fun x o h m => b x o (a x o h m).1 (a x o h m).2
theorem Fr.new {H : Hp} {M : Mem} {p : Addr} {o : HO} (h : H p = none) : Fr H M (upd H p o) M := fun a u e m => ⟨by rw [upd_ne (ne_of_none e h)]; exact e, m⟩
section
variable {K : Fg} {H H' H1 : Hp} {M M' M1 : Mem} {a p : Addr} {vs xs : List V} {ds : List D} {d : D} {v : V}
theorem TqT.mono (f : Fr H M H' M') (h : TqT K H M a xs) : TqT K H' M' a xs := by
  rcases h with ⟨h, m, p⟩ | h
  · exact .inl ⟨(f _ _ h m).1, (f _ _ h m).2, p⟩
  · exact .inr h
theorem TqR.mono (f : Fr H M H' M') (h : TqR K H M a xs) : TqR K H' M' a xs := by
  rcases h with ⟨h | ⟨o, h⟩, m, p⟩ | h
  · exact .inl ⟨.inl (f _ _ h m).1, (f _ _ h m).2, p⟩
  · exact .inl ⟨.inr ⟨o, (f _ _ h m).1⟩, (f _ _ h m).2, p⟩
  · exact .inr h
mutual
theorem Rep.mono (f : Fr H M H' M') : ∀ {d : D} {v : V}, Rep K H M d v → Rep K H' M' d v
  | .non, _, h => h
  | .bl _, _, h => h
  | .int _, _, h => h
  | .str _, _, h => h
  | .ref _, _, h => h
  | .ty _, _, h => h
  | .cls _, _, h => h
  | .tup ds, _, ⟨a, vs, e, q, r⟩ => ⟨a, vs, e, q.mono f, Reps.mono f r⟩
  | .lst ds, _, ⟨a, vs, e, q, r⟩ => ⟨a, vs, e, ⟨(f _ _ q.1 q.2.1).1, (f _ _ q.1 q.2.1).2, q.2.2⟩, Reps.mono f r⟩
  | .rol ds, _, ⟨a, vs, e, q, r⟩ => ⟨a, vs, e, q.mono f, Reps.mono f r⟩
  | .dK ks ds, _, ⟨a, vs, e, q, z, r⟩ => ⟨a, vs, e, ⟨(f _ _ q.1 q.2.1).1, (f _ _ q.1 q.2.1).2, q.2.2⟩, z, Reps.mono f r⟩
  | .dT ks ds, _, ⟨a, vs, e, q, z, r⟩ => ⟨a, vs, e, ⟨(f _ _ q.1 q.2.1).1, (f _ _ q.1 q.2.1).2, q.2.2⟩, z, Reps.mono f r⟩
  | .ins C ns ds, _, ⟨a, dx, vs, e, q, z, r⟩ => ⟨a, dx, vs, e, ⟨(f _ _ q.1 q.2.1).1, (f _ _ q.1 q.2.1).2, q.2.2⟩, z, Reps.mono f r⟩
theorem Reps.mono (f : Fr H M H' M') : ∀ {ds : List D} {vs : List V}, Reps K H M ds vs → Reps K H' M' ds vs
  | [], _, h => h
  | d :: ds, _, ⟨v, r, e, h, t⟩ => ⟨v, r, e, Rep.mono f h, Reps.mono f t⟩
end
theorem Reps.length : ∀ {ds : List D} {vs : List V}, Reps K H M ds vs → ds.length = vs.length
  | [], _, h => by rw [show _ = [] from h]; rfl
  | d :: ds, _, ⟨v, r, e, h, t⟩ => by rw [e, List.length_cons, List.length_cons, Reps.length t]
theorem Reps.get : ∀ {ds : List D} {vs : List V} {i : Nat} {d : D}, Reps K H M ds vs → ds[i]? = some d → ∃ v, vs[i]? = some v ∧ Rep K H M d v
  | [], _, _, _, _, e => by simp at e
  | d :: ds, _, 0, _, ⟨v, r, rfl, h, t⟩, e => by
    simp only [List.getElem?_cons_zero, Option.some.injEq] at e
    subst e
    exact ⟨v, rfl, h⟩
  | d :: ds, _, i + 1, x, ⟨v, r, rfl, h, t⟩, e => by
    simp only [List.getElem?_cons_succ] at e ⊢
    exact Reps.get t e
theorem Reps.append : ∀ {ds es : List D} {vs ws : List V}, Reps K H M ds vs → Reps K H M es ws → Reps K H M (ds ++ es) (vs ++ ws)
  | [], _, _, _, h, g => by rw [show _ = [] from h]; exact g
  | d :: ds, _, _, _, ⟨v, r, rfl, h, t⟩, g => ⟨v, r ++ _, rfl, h, Reps.append t g⟩
theorem Reps.drop : ∀ {ds : List D} {vs : List V} (n : Nat), Reps K H M ds vs → Reps K H M (ds.drop n) (vs.drop n)
  | _, _, 0, h => h
  | [], _, n + 1, h => by rw [show _ = [] from h]; rfl
  | d :: ds, _, n + 1, ⟨v, r, rfl, h, t⟩ => Reps.drop n t
theorem Reps.take : ∀ {ds : List D} {vs : List V} (n : Nat), Reps K H M ds vs → Reps K H M (ds.take n) (vs.take n)
  | _, _, 0, h => rfl
  | [], _, n + 1, h => by rw [show _ = [] from h]; rfl
  | d :: ds, _, n + 1, ⟨v, r, rfl, h, t⟩ => ⟨v, r.take n, rfl, h, Reps.take n t⟩
theorem Reps.set : ∀ {ds : List D} {vs : List V} (n : Nat), Reps K H M ds vs → Rep K H M d v → Reps K H M (ds.set n d) (vs.set n v)
  | [], _, n, h, _ => by rw [show _ = [] from h]; rfl
  | e :: ds, _, 0, ⟨u, r, rfl, h, t⟩, q => ⟨v, r, rfl, q, t⟩
  | e :: ds, _, n + 1, ⟨u, r, rfl, h, t⟩, q => ⟨u, r.set n v, rfl, h, Reps.set n t q⟩
theorem Reps.eraseIdx : ∀ {ds : List D} {vs : List V} (n : Nat), Reps K H M ds vs → Reps K H M (ds.eraseIdx n) (vs.eraseIdx n)
  | [], _, n, h => by rw [show _ = [] from h]; rfl
  | e :: ds, _, 0, ⟨u, r, rfl, h, t⟩ => t
  | e :: ds, _, n + 1, ⟨u, r, rfl, h, t⟩ => ⟨u, r.eraseIdx n, rfl, h, Reps.eraseIdx n t⟩
theorem Reps.dropLast : ∀ {ds : List D} {vs : List V}, Reps K H M ds vs → Reps K H M ds.dropLast vs.dropLast := fun {ds vs} h => by
  rw [List.dropLast_eq_take, List.dropLast_eq_take, ← h.length]
  exact h.take _
theorem Reps.snoc (h : Reps K H M ds vs) (q : Rep K H M d v) : Reps K H M (ds ++ [d]) (vs ++ [v]) := h.append ⟨v, [], rfl, q, rfl⟩
theorem Reps.one (q : Rep K H M d v) : Reps K H M [d] [v] := ⟨v, [], rfl, q, rfl⟩
theorem Reps.cut (h : Reps K H M ds vs) (lo hi : Option Int) : Reps K H M (cut ds lo hi) (cutV vs lo hi) := by
  unfold DL.cut cutV
  rw [h.length]
  exact (h.drop _).take _
theorem atI_rep {i : Int} (h : Reps K H M ds vs) (e : DL.atI ds i = some d) : ∃ v, L2.atI vs i = some v ∧ Rep K H M d v := by
  unfold DL.atI at e
  unfold L2.atI
  rw [← h.length]
  show ∃ v, (DL.ixN ds.length i).bind (fun j => vs[j]?) = some v ∧ _
  cases q : DL.ixN ds.length i with
  | none => rw [q] at e; cases e
  | some j =>
    rw [q] at e
    exact h.get (show ds[j]? = some d from e)
/-! ### the memory's steps -/
theorem DeckRep.keep {K' : Fg} {kind b : Nat} (h : DeckRep K kind H M a b) (ka : ∀ x o, (M x = some (.part a) ∨ x = a) → H x = some o → H' x = some o) (kn : ∀ x, (M x = some (.part a) ∨ x = a) → H x = none → H' x = none) (km : ∀ x, M x = some (.part a) → M' x = some (.part a))
    (kf : ∀ x o, H x = some o → M x = none → ¬ K.P x → H' x = some o ∧ M' x = none ∧ ¬ K'.P x) : DeckRep K' kind H' M' a b := by
  have eq : ∀ x, (M x = some (.part a) ∨ x = a) → H' x = H x := fun x q => by
    cases e : H x with
    | none => exact kn x q e
    | some o => exact ka x o q e
  obtain ⟨ps, fs, hp, hf, hi⟩ := h
  refine ⟨ps, fs, fun p q => ⟨km p (hp p q).1, (hp p q).2⟩, fun f q => ?_, ?_⟩
  · obtain ⟨⟨o, e⟩, m, n⟩ := hf f q
    have z := kf f o e m n
    exact ⟨⟨o, z.1⟩, z.2⟩
  · rw [eq a (.inr rfl), show ps.map H' = ps.map H from List.map_congr_left fun p q => eq p (.inl (hp p q).1), show fs.map H' = fs.map H from List.map_congr_left fun f q => by
      obtain ⟨⟨o, e⟩, m, n⟩ := hf f q
      rw [(kf f o e m n).1, e]]
    exact hi
theorem MRep.part {c : Addr} (m : MRep K H M) (h : M a = some (.part c)) : ∃ o, H a = some o := m.obj a _ h
theorem DeckRep.there {kind b : Nat} (h : DeckRep K kind H M a b) : ∃ o, H a = some o := by
  obtain ⟨ps, fs, _, _, hi⟩ := h
  match kind, hi with
  | 0, hi =>
    obtain ⟨dg, cl, n, x, y, _, _, e, _⟩ := hi
    exact ⟨_, e⟩
  | 1, hi =>
    obtain ⟨ca, rs, n, x, y, _, _, e, _⟩ := hi
    exact ⟨_, e⟩
theorem MRep.there (m : MRep K H M) {o : MO} (h : M a = some o) : ∃ u, H a = some u := by
  have q := m.obj a o h
  cases o with
  | lst ds => obtain ⟨vs, e, _⟩ := q; exact ⟨_, e⟩
  | dK ks ds => obtain ⟨vs, e, _⟩ := q; exact ⟨_, e⟩
  | dT ks ds => obtain ⟨vs, e, _⟩ := q; exact ⟨_, e⟩
  | ins C ns ds => obtain ⟨dx, vs, e, _⟩ := q; exact ⟨_, e⟩
  | deck k b => exact DeckRep.there q
  | part _ => exact q
theorem MRep.free (m : MRep K H M) (h : H a = none) : M a = none := by
  cases e : M a with
  | none => rfl
  | some o =>
    obtain ⟨u, q⟩ := m.there e
    rw [h] at q; cases q
/-- an object other than l is as it was -/
theorem ORep.keep {o : MO} (m : MRep K H M) (h : ORep K H M a o) (ha : M a = some o) (f : Fr H M H' M') (l : Addr) (hl : a ≠ l) (hp : ∀ c, M l ≠ some (.part c)) (kh : ∀ x u, x ≠ l → H x = some u → H' x = some u) (km : ∀ x, x ≠ l → M' x = M x) : ORep K H' M' a o := by
  cases o with
  | lst ds => obtain ⟨vs, e, r⟩ := h; exact ⟨vs, kh _ _ hl e, r.mono f⟩
  | dK ks ds => obtain ⟨vs, e, z, r⟩ := h; exact ⟨vs, kh _ _ hl e, z, r.mono f⟩
  | dT ks ds => obtain ⟨vs, e, z, r⟩ := h; exact ⟨vs, kh _ _ hl e, z, r.mono f⟩
  | ins C ns ds => obtain ⟨dx, vs, e, z, r⟩ := h; exact ⟨dx, vs, kh _ _ hl e, z, r.mono f⟩
  | deck k b =>
    have nl : ∀ x, (M x = some (.part a) ∨ x = a) → x ≠ l := fun x q z => by
      rcases q with q | q
      · exact hp a (z ▸ q)
      · exact hl (q ▸ z)
    refine DeckRep.keep (M' := M') h (fun x u q e => kh x u (nl x q) e) (fun x q e => ?_) (fun x q => (km x (nl x (.inl q))).trans q) (fun x o e m p => ⟨(f x o e m).1, (f x o e m).2, p⟩)
    rcases q with q | q
    · obtain ⟨u, w⟩ := m.there q
      rw [e] at w; cases w
    · obtain ⟨u, w⟩ := DeckRep.there h
      rw [q, w] at e; cases e
  | part _ => obtain ⟨u, e⟩ := h; exact ⟨u, kh _ _ hl e⟩
theorem MRep.prv_step (m : MRep K H M) (f : Fr H M H' M') : ∀ a, K.P a → (∃ o, H' a = some o) ∧ M' a = none := fun a h => by
  obtain ⟨⟨o, e⟩, q⟩ := m.prv a h
  exact ⟨⟨o, (f a o e q).1⟩, (f a o e q).2⟩
theorem MRep.nprv (m : MRep K H M) (h : H p = none) : ¬ K.P p := fun q => by
  obtain ⟨⟨o, e⟩, _⟩ := m.prv p q
  rw [h] at e; cases e
theorem MRep.new {o : HO} (m : MRep K H M) (h : H p = none) : MRep K (upd H p o) M := .mk (prv := m.prv_step (Fr.new h)) (obj := fun a u e => by
  have hp : M p = none := m.free h
  exact ORep.keep m (m.obj a u e) e (Fr.new h) p (fun z => by rw [z, hp] at e; cases e) (by rw [hp]; exact fun _ z => nomatch z) (fun x w hx q => by rw [upd_ne hx]; exact q) fun _ _ => rfl)
/-- a new object that the memory knows -/
theorem Fr.newM {o : HO} {u : MO} (h : H p = none) : Fr H M (upd H p o) (mset M p u) := fun a w e m => by
  have ne := ne_of_none e h
  exact ⟨by rw [upd_ne ne]; exact e, by rw [mset_ne ne]; exact m⟩
theorem MRep.newM {o : HO} {u : MO} (m : MRep K H M) (h : H p = none) (q : ORep K (upd H p o) (mset M p u) p u) : MRep K (upd H p o) (mset M p u) := .mk (prv := m.prv_step (Fr.newM h)) (obj := fun a w e => by
  by_cases z : a = p
  · subst z
    rw [mset_same] at e
    cases e
    exact q
  · rw [mset_ne z] at e
    have hp : M p = none := m.free h
    exact ORep.keep m (m.obj a w e) e (Fr.newM h) p z (by rw [hp]; exact fun _ z => nomatch z) (fun x w hx q => by rw [upd_ne hx]; exact q) fun x hx => mset_ne hx)
/-- an object of the memory is changed -/
theorem Fr.write {l : Addr} {o : HO} {u w : MO} (h : M l = some w) : Fr H M (upd H l o) (mset M l u) := fun a z e m => by
  have ne : a ≠ l := fun q => by rw [q, h] at m; cases m
  exact ⟨by rw [upd_ne ne]; exact e, by rw [mset_ne ne]; exact m⟩
theorem MRep.write {l : Addr} {o : HO} {u w : MO} (m : MRep K H M) (h : M l = some w) (hw : ∀ c, w ≠ .part c) (q : ORep K (upd H l o) (mset M l u) l u) : MRep K (upd H l o) (mset M l u) := .mk (prv := m.prv_step (Fr.write h)) (obj := fun a z e => by
  by_cases c : a = l
  · subst c
    rw [mset_same] at e
    cases e
    exact q
  · rw [mset_ne c] at e
    exact ORep.keep m (m.obj a z e) e (Fr.write h) l c (by rw [h]; exact fun c z => hw c (Option.some.inj z)) (fun x w hx q => by rw [upd_ne hx]; exact q) fun x hx => mset_ne hx)
theorem Fr.sub (s : Sub M' M) : Fr H M H M' := fun x u q w => ⟨q, by
  rcases s x with z | ⟨z, _⟩
  · rw [z]; exact w
  · exact z⟩
theorem MRep.sub (m : MRep K H M) (s : Sub M' M) : MRep K H M' := .mk (prv := m.prv_step (Fr.sub s)) (obj := fun a o e => by
  have ea : M a = some o := by
    rcases s a with q | ⟨q, _⟩
    · rw [← q]; exact e
    · rw [q] at e; cases e
  have f : Fr H M H M' := fun x u q w => ⟨q, by
    rcases s x with z | ⟨z, _⟩
    · rw [z]; exact w
    · exact z⟩
  have q := m.obj a o ea
  cases o with
  | lst ds => obtain ⟨vs, e, r⟩ := q; exact ⟨vs, e, r.mono f⟩
  | dK ks ds => obtain ⟨vs, e, z, r⟩ := q; exact ⟨vs, e, z, r.mono f⟩
  | dT ks ds => obtain ⟨vs, e, z, r⟩ := q; exact ⟨vs, e, z, r.mono f⟩
  | ins C ns ds => obtain ⟨dx, vs, e, z, r⟩ := q; exact ⟨dx, vs, e, z, r.mono f⟩
  | deck k b =>
    refine DeckRep.keep (M' := M') q (fun x u _ e => e) (fun x _ e => e) (fun x w => ?_) (fun x o e m p => ⟨e, (f x o e m).2, p⟩)
    rcases s x with z | ⟨z, y⟩
    · rw [z]; exact w
    · rw [w] at y; exact y.elim
  | part _ => exact q)
theorem rep_newT (m : MRep K H M) (h : H p = none) (r : Reps K H M ds vs) : Rep K (upd H p (.tup vs)) M (.tup ds) (.ref p) :=
  ⟨p, vs, rfl, .inl ⟨upd_same, m.free h, m.nprv h⟩, r.mono (Fr.new h)⟩
theorem rep_newL (m : MRep K H M) (h : H p = none) (r : Reps K H M ds vs) : Rep K (upd H p (.lst vs)) M (.lst ds) (.ref p) :=
  ⟨p, vs, rfl, ⟨upd_same, m.free h, m.nprv h⟩, r.mono (Fr.new h)⟩
theorem mrep_newM (m : MRep K H M) (h : H p = none) (r : Reps K H M ds vs) : MRep K (upd H p (.lst vs)) (mset M p (.lst ds)) :=
  m.newM h ⟨vs, upd_same, r.mono (Fr.newM h)⟩
theorem mrep_write {l : Addr} {es : List D} {ws : List V} (m : MRep K H M) (h : M l = some (.lst es)) (r : Reps K H M ds vs) : MRep K (upd H l (.lst vs)) (mset M l (.lst ds)) :=
  m.write h (fun _ z => nomatch z) ⟨vs, upd_same, r.mono (Fr.write h)⟩
/-- lists that are read -/
theorem asL_rep {x : V} {ys : List D} (m : MRep K H M) (r : Rep K H M d x) (e : asL M d = some ys) : ∃ a vs, x = .ref a ∧ SqL K.K H a vs ∧ Reps K H M ys vs := by
  cases d with
  | lst zs =>
    obtain ⟨a, vs, ex, ⟨h, _⟩, q⟩ := r
    cases e
    exact ⟨a, vs, ex, .of h, q⟩
  | rol zs =>
    obtain ⟨a, vs, ex, h, q⟩ := r
    cases e
    exact ⟨a, vs, ex, h.sq, q⟩
  | ref a =>
    cases r
    simp only [asL] at e
    cases em : M a with
    | none => rw [em] at e; cases e
    | some o =>
      rw [em] at e
      cases o with
      | lst zs =>
        cases e
        obtain ⟨vs, h, q⟩ := m.obj a _ em
        exact ⟨a, vs, rfl, .of h, q⟩
      | dK _ _ => cases e
      | dT _ _ => cases e
      | ins _ _ _ => cases e
      | deck _ _ => cases e
      | part _ => cases e
  | _ => cases e
theorem asW_rep {x : V} {ys : List D} (m : MRep K H M) (r : Rep K H M d x) (e : asW M d = some ys) : ∃ a vs, x = .ref a ∧ H a = some (.lst vs) ∧ Reps K H M ys vs := by
  cases d with
  | lst zs =>
    obtain ⟨a, vs, ex, ⟨h, _⟩, q⟩ := r
    cases e
    exact ⟨a, vs, ex, h, q⟩
  | ref a =>
    cases r
    simp only [asW] at e
    cases em : M a with
    | none => rw [em] at e; cases e
    | some o =>
      rw [em] at e
      cases o with
      | lst zs =>
        cases e
        obtain ⟨vs, h, q⟩ := m.obj a _ em
        exact ⟨a, vs, rfl, h, q⟩
      | dK _ _ => cases e
      | dT _ _ => cases e
      | ins _ _ _ => cases e
      | deck _ _ => cases e
      | part _ => cases e
  | _ => cases e
theorem asS_rep {x : V} {ys : List D} (m : MRep K H M) (r : Rep K H M d x) (e : asS M d = some ys) : ∃ a vs, x = .ref a ∧ (SqL K.K H a vs ∨ SqT K.K H a vs) ∧ Reps K H M ys vs := by
  cases d with
  | tup zs =>
    obtain ⟨a, vs, ex, h, q⟩ := r
    cases e
    exact ⟨a, vs, ex, .inr h.sq, q⟩
  | _ =>
    obtain ⟨a, vs, ex, h, q⟩ := asL_rep m r e
    exact ⟨a, vs, ex, .inl h, q⟩
end

/-! ### private places -/
abbrev Fg.hide (K : Fg) (D : Addr) : Fg := ⟨K.K, fun a => K.P a ∨ a = D⟩
section
variable {K : Fg} {H : Hp} {M : Mem} {D0 : Addr}
mutual
/-- other places are private: those that are tracked and private were so -/
theorem Rep.hides {P' : Addr → Prop} (h : ∀ a o, H a = some o → P' a → K.P a) : ∀ {d : D} {v : V}, Rep K H M d v → Rep ⟨K.K, P'⟩ H M d v
  | .non, _, h => h
  | .bl _, _, h => h
  | .int _, _, h => h
  | .str _, _, h => h
  | .ref _, _, h => h
  | .ty _, _, h => h
  | .cls _, _, h => h
  | .tup ds, _, ⟨a, vs, e, q, r⟩ => ⟨a, vs, e, by
      rcases q with ⟨q, m, p⟩ | q
      · exact .inl ⟨q, m, fun z => p (h _ _ q z)⟩
      · exact .inr q, Reps.hides h r⟩
  | .lst ds, _, ⟨a, vs, e, q, r⟩ => ⟨a, vs, e, ⟨q.1, q.2.1, fun z => q.2.2 (h _ _ q.1 z)⟩, Reps.hides h r⟩
  | .rol ds, _, ⟨a, vs, e, q, r⟩ => ⟨a, vs, e, by
      rcases q with ⟨q, m, p⟩ | q
      · refine .inl ⟨q, m, fun z => ?_⟩
        rcases q with q | ⟨o, q⟩
        · exact p (h _ _ q z)
        · exact p (h _ _ q z)
      · exact .inr q, Reps.hides h r⟩
  | .dK ks ds, _, ⟨a, vs, e, q, z, r⟩ => ⟨a, vs, e, ⟨q.1, q.2.1, fun z => q.2.2 (h _ _ q.1 z)⟩, z, Reps.hides h r⟩
  | .dT ks ds, _, ⟨a, vs, e, q, z, r⟩ => ⟨a, vs, e, ⟨q.1, q.2.1, fun z => q.2.2 (h _ _ q.1 z)⟩, z, Reps.hides h r⟩
  | .ins C ns ds, _, ⟨a, dx, vs, e, q, z, r⟩ => ⟨a, dx, vs, e, ⟨q.1, q.2.1, fun z => q.2.2 (h _ _ q.1 z)⟩, z, Reps.hides h r⟩
theorem Reps.hides {P' : Addr → Prop} (h : ∀ a o, H a = some o → P' a → K.P a) : ∀ {ds : List D} {vs : List V}, Reps K H M ds vs → Reps ⟨K.K, P'⟩ H M ds vs
  | [], _, h => h
  | d :: ds, _, ⟨v, r, e, q, t⟩ => ⟨v, r, e, Rep.hides h q, Reps.hides h t⟩
end
theorem hide_new (h : H D0 = none) : ∀ a o, H a = some o → (K.hide D0).P a → K.P a := fun a o e z => z.elim id fun z => by
  rw [z, h] at e; cases e
theorem Rep.hide {d : D} {v : V} (h : H D0 = none) (r : Rep K H M d v) : Rep (K.hide D0) H M d v := r.hides (hide_new h)
theorem Reps.hide {ds : List D} {vs : List V} (h : H D0 = none) (r : Reps K H M ds vs) : Reps (K.hide D0) H M ds vs := r.hides (hide_new h)
theorem Rep.bare {d : D} {v : V} (r : Rep (K.hide D0) H M d v) : Rep K H M d v := Rep.hides (K := K.hide D0) (P' := K.P) (fun _ _ _ z => Or.inl z) r
theorem Reps.bare {ds : List D} {vs : List V} (r : Reps (K.hide D0) H M ds vs) : Reps K H M ds vs := Reps.hides (K := K.hide D0) (P' := K.P) (fun _ _ _ z => Or.inl z) r
mutual
/-- a private place may change -/
theorem Rep.priv {o : HO} (h : K.P D0) : ∀ {d : D} {v : V}, Rep K H M d v → Rep K (upd H D0 o) M d v
  | .non, _, h => h
  | .bl _, _, h => h
  | .int _, _, h => h
  | .str _, _, h => h
  | .ref _, _, h => h
  | .ty _, _, h => h
  | .cls _, _, h => h
  | .tup ds, _, ⟨a, vs, e, q, r⟩ => ⟨a, vs, e, by
      rcases q with ⟨q, m, p⟩ | q
      · have ne : a ≠ D0 := fun z => p (z ▸ h)
        exact .inl ⟨by rw [upd_ne ne]; exact q, m, p⟩
      · exact .inr q, Reps.priv h r⟩
  | .lst ds, _, ⟨a, vs, e, q, r⟩ => ⟨a, vs, e, ⟨by rw [upd_ne (show a ≠ D0 from fun z => q.2.2 (z ▸ h))]; exact q.1, q.2⟩, Reps.priv h r⟩
  | .rol ds, _, ⟨a, vs, e, q, r⟩ => ⟨a, vs, e, by
      rcases q with ⟨q, m, p⟩ | q
      · have ne : a ≠ D0 := fun z => p (z ▸ h)
        refine .inl ⟨?_, m, p⟩
        rcases q with q | ⟨u, q⟩
        · exact .inl (by rw [upd_ne ne]; exact q)
        · exact .inr ⟨u, by rw [upd_ne ne]; exact q⟩
      · exact .inr q, Reps.priv h r⟩
  | .dK ks ds, _, ⟨a, vs, e, q, z, r⟩ => ⟨a, vs, e, ⟨by rw [upd_ne (show a ≠ D0 from fun z => q.2.2 (z ▸ h))]; exact q.1, q.2⟩, z, Reps.priv h r⟩
  | .dT ks ds, _, ⟨a, vs, e, q, z, r⟩ => ⟨a, vs, e, ⟨by rw [upd_ne (show a ≠ D0 from fun z => q.2.2 (z ▸ h))]; exact q.1, q.2⟩, z, Reps.priv h r⟩
  | .ins C ns ds, _, ⟨a, dx, vs, e, q, z, r⟩ => ⟨a, dx, vs, e, ⟨by rw [upd_ne (show a ≠ D0 from fun z => q.2.2 (z ▸ h))]; exact q.1, q.2⟩, z, Reps.priv h r⟩
theorem Reps.priv {o : HO} (h : K.P D0) : ∀ {ds : List D} {vs : List V}, Reps K H M ds vs → Reps K (upd H D0 o) M ds vs
  | [], _, h => h
  | d :: ds, _, ⟨v, r, e, q, t⟩ => ⟨v, r, e, Rep.priv h q, Reps.priv h t⟩
end
theorem MRep.hide {o : HO} (m : MRep K H M) (h : H D0 = none) : MRep (K.hide D0) (upd H D0 o) M := by
  have m1 := m.new (o := o) h
  have mD := m.free h
  refine ⟨fun a u e => ?_, fun a q => ?_⟩
  · have q := m.obj a u e
    have ne : a ≠ D0 := fun z => by rw [z, mD] at e; cases e
    have hR : ∀ {ds : List D} {vs : List V}, Reps K H M ds vs → Reps (K.hide D0) (upd H D0 o) M ds vs := fun r => Reps.priv (K := K.hide D0) (D0 := D0) (Or.inr rfl) (r.hide h)
    cases u with
    | lst ds => obtain ⟨vs, e, r⟩ := q; exact ⟨vs, by rw [upd_ne ne]; exact e, hR r⟩
    | dK ks ds => obtain ⟨vs, e, z, r⟩ := q; exact ⟨vs, by rw [upd_ne ne]; exact e, z, hR r⟩
    | dT ks ds => obtain ⟨vs, e, z, r⟩ := q; exact ⟨vs, by rw [upd_ne ne]; exact e, z, hR r⟩
    | ins C ns ds => obtain ⟨dx, vs, e, z, r⟩ := q; exact ⟨dx, vs, by rw [upd_ne ne]; exact e, z, hR r⟩
    | deck k b =>
      have h0 : ∀ x, (M x = some (.part a) ∨ x = a) → ∃ w, H x = some w := fun x z => by
        rcases z with z | z
        · exact m.there z
        · rw [z]; exact m.there e
      have nx : ∀ x, (M x = some (.part a) ∨ x = a) → x ≠ D0 := fun x z y => by
        obtain ⟨w, hw⟩ := h0 x z
        rw [y, h] at hw; cases hw
      exact DeckRep.keep q (fun x u z e => by rw [upd_ne (nx x z)]; exact e) (fun x z e => by rw [upd_ne (nx x z)]; exact e) (fun _ z => z) (fun x w ex mx px => by
        have ne' : x ≠ D0 := fun z => by rw [z, h] at ex; cases ex
        exact ⟨by rw [upd_ne ne']; exact ex, mx, fun z => z.elim px ne'⟩)
    | part _ => exact m1.obj a _ e
  · rcases q with q | q
    · exact m1.prv a q
    · subst q; exact ⟨⟨o, upd_same⟩, mD⟩
theorem MRep.bare (m : MRep (K.hide D0) H M) : MRep K H M := by
  refine ⟨fun a u e => ?_, fun a q => m.prv a (.inl q)⟩
  have q := m.obj a u e
  cases u with
  | lst ds => obtain ⟨vs, e, r⟩ := q; exact ⟨vs, e, r.bare⟩
  | dK ks ds => obtain ⟨vs, e, z, r⟩ := q; exact ⟨vs, e, z, r.bare⟩
  | dT ks ds => obtain ⟨vs, e, z, r⟩ := q; exact ⟨vs, e, z, r.bare⟩
  | ins C ns ds => obtain ⟨dx, vs, e, z, r⟩ := q; exact ⟨dx, vs, e, z, r.bare⟩
  | deck k b => exact DeckRep.keep (K := K.hide D0) (K' := K) q (fun x u _ e => e) (fun x _ e => e) (fun _ z => z) (fun x w ex mx px => ⟨ex, mx, fun z => px (.inl z)⟩)
  | part _ => exact q
theorem MRep.priv {o : HO} (m : MRep K H M) (h : K.P D0) : MRep K (upd H D0 o) M := by
  obtain ⟨⟨w, hw⟩, mD⟩ := m.prv D0 h
  refine ⟨fun a u e => ?_, fun a q => ?_⟩
  · have q := m.obj a u e
    have ne : ∀ x, M x ≠ none → x ≠ D0 := fun x hx z => by rw [z] at hx; exact hx mD
    have na : a ≠ D0 := ne a (by rw [e]; exact fun z => nomatch z)
    cases u with
    | lst ds => obtain ⟨vs, e, r⟩ := q; exact ⟨vs, by rw [upd_ne na]; exact e, r.priv h⟩
    | dK ks ds => obtain ⟨vs, e, z, r⟩ := q; exact ⟨vs, by rw [upd_ne na]; exact e, z, r.priv h⟩
    | dT ks ds => obtain ⟨vs, e, z, r⟩ := q; exact ⟨vs, by rw [upd_ne na]; exact e, z, r.priv h⟩
    | ins C ns ds => obtain ⟨dx, vs, e, z, r⟩ := q; exact ⟨dx, vs, by rw [upd_ne na]; exact e, z, r.priv h⟩
    | deck k b =>
      have nx : ∀ x, (M x = some (.part a) ∨ x = a) → x ≠ D0 := fun x z => by
        rcases z with z | z
        · exact ne x (by rw [z]; exact fun z => nomatch z)
        · rw [z]; exact na
      exact DeckRep.keep q (fun x u z e => by rw [upd_ne (nx x z)]; exact e) (fun x z e => by rw [upd_ne (nx x z)]; exact e) (fun _ z => z) (fun x w ex mx px => ⟨by rw [upd_ne (show x ≠ D0 from fun z => px (z ▸ h))]; exact ex, mx, px⟩)
    | part _ => obtain ⟨u, e⟩ := q; exact ⟨u, by rw [upd_ne na]; exact e⟩
  · obtain ⟨⟨u, hu⟩, ma⟩ := m.prv a q
    by_cases z : a = D0
    · subst z; exact ⟨⟨o, upd_same⟩, ma⟩
    · exact ⟨⟨u, by rw [upd_ne z]; exact hu⟩, ma⟩
end

/-! ### states, readings -/
structure SRep (K : Fg) (σ : St) (H : Hp) (ρ : Env) (M : Mem) : Prop where
  len : σ.length = ρ.length
  env : ∀ (i : Nat) (d : D), ρ[i]? = some (some d) → ∃ v, σ[i]? = some (some v) ∧ Rep K H M d v
  mem : MRep K H M
theorem SRep.step {K : Fg} {σ : St} {H H' : Hp} {ρ : Env} {M M' : Mem} (s : SRep K σ H ρ M) (f : Fr H M H' M') (m : MRep K H' M') : SRep K σ H' ρ M' :=
  ⟨s.len, fun i d e => let ⟨v, q, r⟩ := s.env i d e; ⟨v, q, r.mono f⟩, m⟩
theorem SRep.set {K : Fg} {σ : St} {H : Hp} {ρ : Env} {M : Mem} {i : Nat} {d : D} {v : V} (s : SRep K σ H ρ M) (r : Rep K H M d v) : SRep K (σ.set i (some v)) H (ρ.set i (some d)) M := by
  refine ⟨by rw [List.length_set, List.length_set]; exact s.len, fun j e h => ?_, s.mem⟩
  by_cases c : i = j
  · subst c
    by_cases l : i < ρ.length
    · rw [List.getElem?_set_self l] at h
      cases h
      exact ⟨v, List.getElem?_set_self (by rw [s.len]; exact l), r⟩
    · rw [List.getElem?_eq_none (by rw [List.length_set]; omega)] at h
      cases h
  · rw [List.getElem?_set_ne c] at h
    obtain ⟨u, q, w⟩ := s.env j e h
    exact ⟨u, by rw [List.getElem?_set_ne c]; exact q, w⟩
theorem SRep.clear {K : Fg} {σ : St} {H : Hp} {ρ : Env} {M : Mem} (i : Nat) (s : SRep K σ H ρ M) : SRep K (σ.set i none) H (ρ.set i none) M := by
  refine ⟨by rw [List.length_set, List.length_set]; exact s.len, fun j e h => ?_, s.mem⟩
  by_cases c : i = j
  · subst c
    by_cases l : i < ρ.length
    · rw [List.getElem?_set_self l] at h
      cases h
    · rw [List.getElem?_eq_none (by rw [List.length_set]; omega)] at h
      cases h
  · rw [List.getElem?_set_ne c] at h
    obtain ⟨u, q, w⟩ := s.env j e h
    exact ⟨u, by rw [List.getElem?_set_ne c]; exact q, w⟩
theorem SRep.wipe {K : Fg} {σ : St} {H : Hp} {ρ : Env} {M : Mem} (s : SRep K σ H ρ M) : ∀ vs : List Nat, SRep K (L2.wipe σ vs) H (DL.wipe ρ vs) M
  | [] => s
  | v :: vs => (SRep.wipe s vs).clear v

theorem SRep.hides {K : Fg} {σ : St} {H : Hp} {ρ : Env} {M : Mem} {P' : Addr → Prop} (s : SRep K σ H ρ M) (h : ∀ a o, H a = some o → P' a → K.P a) (m : MRep ⟨K.K, P'⟩ H M) : SRep ⟨K.K, P'⟩ σ H ρ M :=
  ⟨s.len, fun i d e => let ⟨v, q, r⟩ := s.env i d e; ⟨v, q, r.hides h⟩, m⟩
def Lift (K : Fg) (H : Hp) (M : Mem) (Q : DK) (Q' : VK) : Prop := ∀ v H' d M', Fr H M H' M' → Rep K H' M' d v → MRep K H' M' → Q d M' → Q' v H'
def LiftB (K : Fg) (H : Hp) (M : Mem) (Q : BK) (Q' : Bool → Hp → Prop) : Prop := ∀ b H' M', Fr H M H' M' → MRep K H' M' → Q b M' → Q' b H'
def LiftA (K : Fg) (H : Hp) (M : Mem) (n : Nat) (Q : List D → Mem → Prop) (Q' : List V → Hp → Prop) : Prop := ∀ vs H' ds M', Fr H M H' M' → Reps K H' M' ds vs → ds.length = n → MRep K H' M' → Q ds M' → Q' vs H'
def LiftS (K : Fg) (H : Hp) (M : Mem) (Q : Env → Mem → Prop) (Q' : St → Hp → Prop) : Prop := ∀ σ' H' ρ' M', Fr H M H' M' → SRep K σ' H' ρ' M' → Q ρ' M' → Q' σ' H'
theorem Lift.later {K : Fg} {H H' : Hp} {M M' : Mem} {Q : DK} {Q' : VK} (l : Lift K H M Q Q') (f : Fr H M H' M') : Lift K H' M' Q Q' := fun v H2 d M2 f2 => l v H2 d M2 (f.trans f2)
theorem LiftB.later {K : Fg} {H H' : Hp} {M M' : Mem} {Q : BK} {Q' : Bool → Hp → Prop} (l : LiftB K H M Q Q') (f : Fr H M H' M') : LiftB K H' M' Q Q' := fun v H2 M2 f2 => l v H2 M2 (f.trans f2)
theorem LiftS.later {K : Fg} {H H' : Hp} {M M' : Mem} {Q : Env → Mem → Prop} {Q' : St → Hp → Prop} (l : LiftS K H M Q Q') (f : Fr H M H' M') : LiftS K H' M' Q Q' := fun v H2 d M2 f2 => l v H2 d M2 (f.trans f2)
def Ref (K : Fg) (te : TE) (t : DE) : Prop := ∀ σ H ρ M Q Q', SRep K σ H ρ M → t ρ M Q → Lift K H M Q Q' → te σ H Q'
def RefT (K : Fg) (te : TT) (t : DT) : Prop := ∀ σ H ρ M Q Q', SRep K σ H ρ M → t ρ M Q → LiftB K H M Q Q' → te σ H Q'
def RefA (K : Fg) (n : Nat) (te : TA) (t : DA) : Prop := ∀ σ H ρ M Q Q', SRep K σ H ρ M → t ρ M Q → LiftA K H M n Q Q' → te σ H Q'
structure LiftE (K : Fg) (H : Hp) (M : Mem) (E : DEnds) (E' : Ends) : Prop where
  nx : LiftS K H M E.nx E'.nx
  rt : Lift K H M E.rt E'.rt
  bk : LiftS K H M E.bk E'.bk
  ct : LiftS K H M E.ct E'.ct
theorem LiftE.later {K : Fg} {H H' : Hp} {M M' : Mem} {E : DEnds} {E' : Ends} (l : LiftE K H M E E') (f : Fr H M H' M') : LiftE K H' M' E E' := ⟨l.nx.later f, l.rt.later f, l.bk.later f, l.ct.later f⟩
def RefS (K : Fg) (ts : TS) (t : DS) : Prop := ∀ σ H ρ M E E', SRep K σ H ρ M → t E ρ M → LiftE K H M E E' → ts E' σ H
def RefG (K : Fg) (tg : TG) (g : DG) : Prop := ∀ v d σ H ρ M Q Q', SRep K σ H ρ M → Rep K H M d v → g d ρ M Q → LiftS K H M Q Q' → tg v σ H Q'
def RefGs (K : Fg) (tg : TGs) (g : DGs) : Prop := ∀ vs ds σ H ρ M Q Q', SRep K σ H ρ M → Reps K H M ds vs → g ds ρ M Q → LiftS K H M Q Q' → tg vs σ H Q'
def RefR (K : Fg) (r : L2.R2) (rd : DL.R2) : Prop := ∀ x y H M dx dy Q Q', Rep K H M dx x → Rep K H M dy y → MRep K H M → rd dx dy M Q → Lift K H M Q Q' → r x y H Q'
def RefR1 (K : Fg) (r : List V → Hp → VK → Prop) (rd : R1) : Prop := ∀ x H M dx Q Q', Rep K H M dx x → MRep K H M → rd dx M Q → Lift K H M Q Q' → r [x] H Q'
structure RE (X : Cx) (e : Expr) (te : TE) (t : DE) : Prop where
  pe : PE X e te
  rf : ∀ P, Ref ⟨X.K, P⟩ te t
structure RT (X : Cx) (e : Expr) (te : TT) (t : DT) : Prop where
  pt : PT X e te
  rf : ∀ P, RefT ⟨X.K, P⟩ te t
structure RW (X : Cx) (e : Expr) (te : TT) (t : DT) : Prop where
  pw : PW X e te
  rf : ∀ P, RefT ⟨X.K, P⟩ te t
structure RA (X : Cx) (es : List Expr) (te : TA) (t : DA) : Prop where
  pa : PA X es te
  rf : ∀ P, RefA ⟨X.K, P⟩ es.length te t
structure RS (X : Cx) (st : Stmt) (ts : TS) (t : DS) : Prop where
  ps : PS X st ts
  rf : ∀ P, RefS ⟨X.K, P⟩ ts t
structure RSs (X : Cx) (st : List Stmt) (ts : TS) (t : DS) : Prop where
  ps : PSs X st ts
  rf : ∀ P, RefS ⟨X.K, P⟩ ts t
structure RG (X : Cx) (e : Expr) (tg : TG) (g : DG) : Prop where
  pg : PG X e tg
  rf : ∀ P, RefG ⟨X.K, P⟩ tg g
structure RGs (X : Cx) (es : List Expr) (tg : TGs) (g : DGs) : Prop where
  pg : PGs X es tg
  rf : ∀ P, RefGs ⟨X.K, P⟩ tg g
/-- what is walked: at every later heap the items come as they were told -/
structure Gives (K : Fg) (J : It) (ds : List D) (H : Hp) (M : Mem) : Prop where
  go : ∀ i H' M', Fr H M H' M' → i < ds.length → J.go i H'
  stop : ∀ H' M', Fr H M H' M' → J.stop ds.length H'
  yld : ∀ (P' : Addr → Prop), (∀ a o, H a = some o → P' a → K.P a) → ∀ i H' M' x H2, Fr H M H' M' → MRep ⟨K.K, P'⟩ H' M' → J.yld i H' x H2 → ∀ d, ds[i]? = some d → Fr H' M' H2 M' ∧ MRep ⟨K.K, P'⟩ H2 M' ∧ Rep ⟨K.K, P'⟩ H2 M' d x
def RefI (K : Fg) (wi : TI) (t : DI) : Prop := ∀ σ H ρ M (R : List D → Mem → Prop) (R' : It → Hp → Prop), SRep K σ H ρ M → t ρ M R → (∀ J H' ds M', Fr H M H' M' → MRep K H' M' → Gives K J ds H' M' → R ds M' → R' J H') → wi σ H R'
structure RI (X : Cx) (tg e : Expr) (wi : TI) (t : DI) : Prop where
  pi : PI X tg e wi
  rf : ∀ P, RefI ⟨X.K, P⟩ wi t
end DL
/-! DLR: the rules. -/
namespace DL
open PySem PySem.Spec PyProof.Rows L2

section
variable {K : Fg}
/-! ### readings of expressions -/
theorem ref_var (i : Nat) : Ref K (tVar i) (dV i) := fun σ H ρ M Q Q' s h l => by
  unfold dV at h
  split at h
  · rename_i d e
    obtain ⟨v, q, r⟩ := s.env i d e
    exact ⟨v, q, l v H d M (Fr.refl H M) r s.mem h⟩
  · exact h.elim
theorem ref_c {d : D} {v : V} (hc : ∀ H M, Rep K H M d v) : Ref K (tC v) (dC d) := fun σ H ρ M Q Q' s h l => l v H d M (Fr.refl H M) (hc H M) s.mem h
variable {ta tb tc te : TE} {t u w : DE} {tA : TA} {a : DA} {n : Nat} {tt tu : TT} {b c : DT}
theorem refA_nil : RefA K 0 tNil dA0 := fun σ H ρ M Q Q' s h l => l [] H [] M (Fr.refl H M) rfl rfl s.mem h
theorem refA_cons (h1 : Ref K ta t) (h2 : RefA K n tA a) : RefA K (n + 1) (tCons ta tA) (dA t a) := fun σ H ρ M Q Q' s h l =>
  h1 σ H ρ M _ _ s h fun v H1 d M1 f1 r1 m1 q1 => h2 σ H1 ρ M1 _ _ (s.step f1 m1) q1 fun vs H2 ds M2 f2 r2 n2 m2 q2 =>
    l (v :: vs) H2 (d :: ds) M2 (f1.trans f2) ⟨v, vs, rfl, r1.mono f2, r2⟩ (by rw [List.length_cons, n2]) m2 q2
theorem ref_tup (hn : n ≤ SZ) (h : RefA K n tA a) : Ref K (tTup tA) (dTup a) := fun σ H ρ M Q Q' s q l =>
  h σ H ρ M _ _ s q fun vs H1 ds M1 f1 r1 n1 m1 q1 => ⟨szLe (by rw [← r1.length, n1]; exact hn), fun p hp =>
    l _ _ _ _ (f1.trans (Fr.new hp)) (rep_newT m1 hp r1) (m1.new hp) q1⟩
theorem ref_lst (hn : n ≤ SZ) (h : RefA K n tA a) : Ref K (tLst tA) (dLst a) := fun σ H ρ M Q Q' s q l =>
  h σ H ρ M _ _ s q fun vs H1 ds M1 f1 r1 n1 m1 q1 => ⟨szLe (by rw [← r1.length, n1]; exact hn), fun p hp =>
    l _ _ _ _ (f1.trans (Fr.new hp)) (rep_newL m1 hp r1) (m1.new hp) q1⟩
theorem ref_new (hn : n ≤ SZ) (h : RefA K n tA a) : Ref K (tLst tA) (dNew a) := fun σ H ρ M Q Q' s q l =>
  h σ H ρ M _ _ s q fun vs H1 ds M1 f1 r1 n1 m1 q1 => ⟨szLe (by rw [← r1.length, n1]; exact hn), fun p hp =>
    l _ _ (.ref p) _ (f1.trans (Fr.newM hp)) rfl (mrep_newM m1 hp r1) (q1 p (m1.free hp))⟩
theorem ref_op {r : L2.R2} {rd : DL.R2} (hr : RefR K r rd) (h1 : Ref K ta t) (h2 : Ref K tb u) : Ref K (tOp r ta tb) (dOp rd t u) := fun σ H ρ M Q Q' s q l =>
  h1 σ H ρ M _ _ s q fun v H1 d M1 f1 r1 m1 q1 => h2 σ H1 ρ M1 _ _ (s.step f1 m1) q1 fun v2 H2 d2 M2 f2 r2 m2 q2 =>
    hr v v2 H2 M2 d d2 _ _ (r1.mono f2) r2 m2 q2 (l.later (f1.trans f2))
theorem ref_cb1 {r : List V → Hp → VK → Prop} {rd : R1} (hr : RefR1 K r rd) (h1 : Ref K ta t) : Ref K (tCB r (tCons ta tNil)) (dUn rd t) := fun σ H ρ M Q Q' s q l =>
  h1 σ H ρ M _ _ s q fun v H1 d M1 f1 r1 m1 q1 => hr v H1 M1 d _ _ r1 m1 q1 (l.later f1)
theorem ref_un {r : V → Hp → VK → Prop} {rd : R1} (hr : RefR1 K (fun xs H Q => ∃ x, xs = [x] ∧ r x H Q) rd) (h1 : Ref K ta t) : Ref K (tUn r ta) (dUn rd t) := fun σ H ρ M Q Q' s q l =>
  h1 σ H ρ M _ _ s q fun v H1 d M1 f1 r1 m1 q1 => by
    obtain ⟨x, e, z⟩ := hr v H1 M1 d _ _ r1 m1 q1 (l.later f1)
    cases e
    exact z
/-! tests -/
theorem refT_val (h : Ref K te t) : RefT K (tB te) (dTest t) := fun σ H ρ M Q Q' s q l =>
  h σ H ρ M _ _ s q fun v H1 d M1 f1 r1 m1 q1 => by
    cases d with
    | bl k => cases r1; exact ⟨k, rfl, l k H1 M1 f1 m1 q1⟩
    | _ => exact q1.elim
theorem refT_test (h : Ref K te t) : RefT K (tTest te) (dTest t) := fun σ H ρ M Q Q' s q l =>
  h σ H ρ M _ _ s q fun v H1 d M1 f1 r1 m1 q1 => by
    cases d with
    | bl k => cases r1; exact ⟨k, rfl, l k H1 M1 f1 m1 q1⟩
    | _ => exact q1.elim
theorem refT_and (h1 : RefT K tt b) (h2 : RefT K tu c) : RefT K (tAnd tt tu) (dAnd b c) := fun σ H ρ M Q Q' s q l =>
  h1 σ H ρ M _ _ s q fun k H1 M1 f1 m1 q1 => by
    cases k with
    | true =>
      rw [if_pos rfl] at q1 ⊢
      exact h2 σ H1 ρ M1 _ _ (s.step f1 m1) q1 (l.later f1)
    | false =>
      rw [if_neg Bool.false_ne_true] at q1 ⊢
      exact l false H1 M1 f1 m1 q1
theorem refT_or (h1 : RefT K tt b) (h2 : RefT K tu c) : RefT K (tOr tt tu) (dOr b c) := fun σ H ρ M Q Q' s q l =>
  h1 σ H ρ M _ _ s q fun k H1 M1 f1 m1 q1 => by
    cases k with
    | true =>
      rw [if_pos rfl] at q1 ⊢
      exact l true H1 M1 f1 m1 q1
    | false =>
      rw [if_neg Bool.false_ne_true] at q1 ⊢
      exact h2 σ H1 ρ M1 _ _ (s.step f1 m1) q1 (l.later f1)
theorem refT_not (h1 : RefT K tt b) : RefT K (tNot tt) (dNot b) := fun σ H ρ M Q Q' s q l =>
  h1 σ H ρ M _ _ s q fun k H1 M1 f1 m1 q1 => l (!k) H1 M1 f1 m1 q1
theorem refT_yes : RefT K tYes dYes := fun σ H ρ M Q Q' s q l => l true H M (Fr.refl H M) s.mem q
theorem ref_andV (h1 : Ref K ta t) (h2 : Ref K tb u) : Ref K (tAndV ta tb) (dAndV t u) := fun σ H ρ M Q Q' s q l =>
  h1 σ H ρ M _ _ s q fun v H1 d M1 f1 r1 m1 q1 => by
    cases d with
    | bl k =>
      cases r1
      refine ⟨k, rfl, ?_⟩
      cases k with
      | true =>
        simp only [if_true] at q1 ⊢
        exact h2 σ H1 ρ M1 _ _ (s.step f1 m1) q1 (l.later f1)
      | false =>
        simp only [Bool.false_eq_true, if_false] at q1 ⊢
        exact l _ H1 (.bl false) M1 f1 rfl m1 q1
    | _ => exact q1.elim
theorem ref_orV (h1 : Ref K ta t) (h2 : Ref K tb u) : Ref K (tOrV ta tb) (dOrV t u) := fun σ H ρ M Q Q' s q l =>
  h1 σ H ρ M _ _ s q fun v H1 d M1 f1 r1 m1 q1 => by
    cases d with
    | bl k =>
      cases r1
      refine ⟨k, rfl, ?_⟩
      cases k with
      | true =>
        simp only [if_true] at q1 ⊢
        exact l _ H1 (.bl true) M1 f1 rfl m1 q1
      | false =>
        simp only [Bool.false_eq_true, if_false] at q1 ⊢
        exact h2 σ H1 ρ M1 _ _ (s.step f1 m1) q1 (l.later f1)
    | _ => exact q1.elim
theorem ref_notV (h1 : Ref K ta t) : Ref K (tNotV ta) (dNotV t) := fun σ H ρ M Q Q' s q l =>
  h1 σ H ρ M _ _ s q fun v H1 d M1 f1 r1 m1 q1 => by
    cases d with
    | bl k => cases r1; exact ⟨k, rfl, l _ H1 (.bl (!k)) M1 f1 rfl m1 q1⟩
    | _ => exact q1.elim
theorem ref_ifE (h : RefT K tt b) (h1 : Ref K ta t) (h2 : Ref K tb u) : Ref K (tIf tt ta tb) (dIfE b t u) := fun σ H ρ M Q Q' s q l =>
  h σ H ρ M _ _ s q fun k H1 M1 f1 m1 q1 => by
    cases k with
    | true =>
      rw [if_pos rfl] at q1 ⊢
      exact h1 σ H1 ρ M1 _ _ (s.step f1 m1) q1 (l.later f1)
    | false =>
      rw [if_neg Bool.false_ne_true] at q1 ⊢
      exact h2 σ H1 ρ M1 _ _ (s.step f1 m1) q1 (l.later f1)
theorem ref_chain {r r' : L2.R2} {rd rd' : DL.R2} (hr : RefR K r rd) (hr' : RefR K r' rd') (h1 : Ref K ta t) (h2 : Ref K tb u) (h3 : Ref K tc w) : Ref K (tChain r r' ta tb tc) (dChain rd rd' t u w) := fun σ H ρ M Q Q' s q l =>
  h1 σ H ρ M _ _ s q fun v H1 d M1 f1 r1 m1 q1 => h2 σ H1 ρ M1 _ _ (s.step f1 m1) q1 fun v2 H2 d2 M2 f2 r2 m2 q2 =>
    hr v v2 H2 M2 d d2 _ _ (r1.mono f2) r2 m2 q2 fun z H3 dz M3 f3 r3 m3 q3 => by
      cases dz with
      | bl k =>
        cases r3
        refine ⟨k, rfl, ?_⟩
        cases k with
        | true =>
          simp only [if_true] at q3 ⊢
          exact h3 σ H3 ρ M3 _ _ (s.step ((f1.trans f2).trans f3) m3) q3 fun v4 H4 d4 M4 f4 r4 m4 q4 =>
            hr' v2 v4 H4 M4 d2 d4 _ _ (r2.mono (f3.trans f4)) r4 m4 q4 (l.later (((f1.trans f2).trans f3).trans f4))
        | false =>
          simp only [Bool.false_eq_true, if_false] at q3 ⊢
          exact l _ H3 (.bl false) M3 ((f1.trans f2).trans f3) rfl m3 q3
      | _ => exact q3.elim
end

/-! ### operators -/
section
variable {K : Fg}
theorem fin {H : Hp} {M : Mem} {Q : DK} {Q' : VK} {d : D} {v : V} (l : Lift K H M Q Q') (m : MRep K H M) (r : Rep K H M d v) (q : Q d M) : Q' v H := l v H d M (Fr.refl H M) r m q
theorem finI {H : Hp} {M : Mem} {Q : DK} {Q' : VK} {i : Int} (l : Lift K H M Q Q') (m : MRep K H M) (q : Q (.int i) M) : Q' (.int i) H := l _ H (.int i) M (Fr.refl H M) rfl m q
theorem finB {H : Hp} {M : Mem} {Q : DK} {Q' : VK} {i : Bool} (l : Lift K H M Q Q') (m : MRep K H M) (q : Q (.bl i) M) : Q' (.bl i) H := l _ H (.bl i) M (Fr.refl H M) rfl m q
theorem finS {H : Hp} {M : Mem} {Q : DK} {Q' : VK} {i : Str} (l : Lift K H M Q Q') (m : MRep K H M) (q : Q (.str i) M) : Q' (.str i) H := l _ H (.str i) M (Fr.refl H M) rfl m q
def rAddAll (K : PySem.W.Frag) : L2.R2 := fun x y H Q => (∃ i j, x = .int i ∧ y = .int j ∧ Q (.int (i + j)) H) ∨ (∃ i j, x = .str i ∧ y = .str j ∧ i.length + j.length ≤ sizeLine ∧ Q (.str (i ++ j)) H) ∨ rCatA K x y H Q ∨ rCat x y H Q
theorem op_addAll {X : Cx} : OpR X (binaryOp .Add) (rAddAll X.K) := op_add.or (op_add_str.or (op_catA.or op_cat))
theorem rf_addL {x y : V} {H : Hp} {M : Mem} {dx dy : D} {Q : DK} {Q' : VK} (rx : Rep K H M dx x) (ry : Rep K H M dy y) (m : MRep K H M) (q : match asW M dx, asW M dy with
    | some a, some b => a.length + b.length ≤ SZ ∧ Q (.lst (a ++ b)) M
    | _, _ => False) (l : Lift K H M Q Q') : rAddAll K.K x y H Q' := by
  split at q
  · rename_i a b e1 e2
    obtain ⟨a1, v1, ex, h1, r1⟩ := asW_rep m rx e1
    obtain ⟨a2, v2, ey, h2, r2⟩ := asW_rep m ry e2
    refine .inr (.inr (.inr ⟨a1, a2, v1, v2, ex, ey, h1, h2, szLe (by rw [← r1.length, ← r2.length]; exact q.1), fun p hp => ?_⟩))
    exact l _ _ _ _ (Fr.new hp) (rep_newL m hp (r1.append r2)) (m.new hp) q.2
  · exact q.elim
theorem rf_add : RefR K (rAddAll K.K) oAdd := fun x y H M dx dy Q Q' rx ry m q l => by
  unfold oAdd at q
  split at q
  · cases rx; cases ry
    exact .inl ⟨_, _, rfl, rfl, finI l m q⟩
  · cases rx; cases ry
    exact .inr (.inl ⟨_, _, rfl, rfl, szLe q.1, finS l m q.2⟩)
  · rename_i a b
    obtain ⟨a1, v1, rfl, h1, r1⟩ := id rx
    obtain ⟨a2, v2, rfl, h2, r2⟩ := id ry
    refine .inr (.inr (.inl ⟨a1, a2, v1, v2, rfl, rfl, h1.sq, h2.sq, szLe (by rw [← r1.length, ← r2.length]; exact q.1), fun e => ?_, fun _ e => ?_, fun _ _ p hp => ?_⟩))
    · subst e
      have e : a = [] := List.eq_nil_of_length_eq_zero r1.length
      subst e
      exact fin l m ry q.2
    · subst e
      have e : b = [] := List.eq_nil_of_length_eq_zero r2.length
      subst e
      rw [List.append_nil] at q
      exact fin l m rx q.2
    · exact l _ _ _ _ (Fr.new hp) (rep_newT m hp (r1.append r2)) (m.new hp) q.2
  · exact rf_addL rx ry m q l
theorem rf_sub : RefR K (rI0 fun i j => .int (i - j)) oSub := fun x y H M dx dy Q Q' rx ry m q l => by
  unfold oSub at q
  split at q
  · cases rx; cases ry
    exact ⟨_, _, rfl, rfl, finI l m q⟩
  · exact q.elim
def rRepS : L2.R2 := fun x y H Q => ∃ i k, x = .str i ∧ y = .int k ∧ 0 ≤ k ∧ k ≤ 1000 ∧ 1 ≤ i.length ∧ i.length ≤ 100 ∧ Q (.str (repS k.toNat i)) H
theorem rep_len (x : Str) : ∀ n : Nat, (repS n x).length = n * x.length := by
  have f : ∀ (n : Nat) (a : Array Nat), ((List.replicate n x.cps).foldl (· ++ ·) a).size = a.size + n * x.cps.size := by
    intro n
    induction n with
    | zero => intro a; simp
    | succ n ih => intro a; rw [List.replicate_succ, List.foldl_cons, ih, Array.size_append, Nat.succ_mul]; omega
  intro n
  show ((List.replicate n x.cps).foldl (· ++ ·) #[]).size = n * x.cps.size
  rw [f n]
  simp
theorem op_repS {X : Cx} : OpR X (binaryOp .Mult) rRepS := by
  intro pins s σ H x y v u Q I rx ry h
  obtain ⟨i, k, rfl, rfl, h1, h2, h3, h4, q⟩ := h
  obtain ⟨t, rfl⟩ := rx
  obtain ⟨t', rfl⟩ := ry
  have hl : (repS k.toNat i).length ≤ 100000 := by
    rw [rep_len]
    calc k.toNat * i.length ≤ 1000 * 100 := Nat.mul_le_mul (by omega) h4
      _ = 100000 := rfl
  by_cases h0 : k < 1
  · have e0 : k = 0 := by omega
    subst e0
    exact PySem.P.mul_str_none h0 (by decide) ⟨.str Str.empty, H, I.tok _, ⟨_, rfl⟩, q⟩
  refine PySem.P.mul_str ?_ ?_ ?_ ?_
  · rw [decide_eq_false (by omega), decide_eq_false (by omega)]; rfl
  · intro _ _
    have : (i.length : Int) ≤ (2 ^ 63 - 1) / k := by
      refine Int.le_ediv_of_mul_le (by omega) ?_
      calc (i.length : Int) * k ≤ 100 * 1000 := Int.mul_le_mul (by omega) h2 (by omega) (by omega)
        _ ≤ 2 ^ 63 - 1 := by decide
    omega
  · intro _ _
    rw [rep_len, Nat.mul_comm] at hl
    exact decide_eq_false (Nat.not_lt.mpr (szLe hl))
  · rw [if_neg (by omega)]
    by_cases e : (k == 1 || i.length == 0) = true
    · rw [if_pos e]
      have hk : k = 1 := by
        have : i.length ≠ 0 := by omega
        simpa [this] using e
      subst hk
      have e1 : repS (1 : Int).toNat i = i := by
        show (⟨#[] ++ i.cps⟩ : Str) = i
        rw [Array.empty_append]
      rw [e1] at q
      exact ⟨.str i, H, I, ⟨_, rfl⟩, q⟩
    · rw [if_neg e]
      exact ⟨szLe hl, ⟨.str _, H, I.tok _, ⟨_, rfl⟩, q⟩⟩
theorem rf_rep : RefR K rRepS oRep := fun x y H M dx dy Q Q' rx ry m q l => by
  unfold oRep at q
  split at q
  · cases rx; cases ry
    exact ⟨_, _, rfl, rfl, Int.le_trans (by decide) q.1.1, q.1.2.1, q.1.2.2.1, q.1.2.2.2, finS l m q.2⟩
  · exact q.elim
def rMulAll : L2.R2 := fun x y H Q => (rI CMul (fun i j => .int (i * j)) x y H Q) ∨ rRepS x y H Q ∨ rRep x y H Q
theorem op_mulAll {X : Cx} : OpR X (binaryOp .Mult) rMulAll := op_mul.or (op_repS.or op_rep)
theorem reps_rep {H : Hp} {M : Mem} {ds : List D} {vs : List V} (r : Reps K H M ds vs) : ∀ n : Nat, Reps K H M (List.replicate n ds).flatten (List.replicate n vs).flatten
  | 0 => rfl
  | n + 1 => by
    rw [List.replicate_succ, List.replicate_succ, List.flatten_cons, List.flatten_cons]
    exact r.append (reps_rep r n)
theorem rf_mul : RefR K rMulAll oMul := fun x y H M dx dy Q Q' rx ry m q l => by
  unfold oMul at q
  split at q
  · cases rx; cases ry
    exact .inl ⟨_, _, rfl, rfl, q.1, finI l m q.2⟩
  · cases rx; cases ry
    exact .inr (.inl ⟨_, _, rfl, rfl, q.1.1, q.1.2.1, q.1.2.2.1, q.1.2.2.2, finS l m q.2⟩)
  · rename_i xs k
    obtain ⟨a, vs, rfl, ⟨h, ma, pa⟩, r⟩ := id rx
    cases ry
    have hl := r.length
    refine .inr (.inr ⟨a, k, vs, rfl, rfl, h, by omega, by omega, ?_, fun p hp => ?_⟩)
    · refine szLe ?_
      calc vs.length * k.toNat ≤ 100 * 1000 := Nat.mul_le_mul (by omega) (by omega)
        _ = 100000 := rfl
    · exact l _ _ _ _ (Fr.new hp) (rep_newL m hp (reps_rep r k.toNat)) (m.new hp) q.2
  · exact q.elim
theorem rf_addI : RefR K (ipI fun i j => i + j) oAddI := fun x y H M dx dy Q Q' rx ry m q l => by
  unfold oAddI at q
  split at q
  · cases rx; cases ry
    exact ⟨_, _, rfl, rfl, finI l m q⟩
  · exact q.elim
def rMax2' : List V → Hp → VK → Prop := fun xs H Q => ∃ i j, xs = [.int i, .int j] ∧ Q (.int (if j > i then j else i)) H
theorem rf_max : ∀ x y H M dx dy Q Q', Rep K H M dx x → Rep K H M dy y → MRep K H M → oMax dx dy M Q → Lift K H M Q Q' → rMax2' [x, y] H Q' := fun x y H M dx dy Q Q' rx ry m q l => by
  unfold oMax at q
  split at q
  · cases rx; cases ry
    exact ⟨_, _, rfl, finI l m q⟩
  · exact q.elim
theorem ref_cb2 {ta tb : TE} {t u : DE} {r : List V → Hp → VK → Prop} {rd : DL.R2} (hr : ∀ x y H M dx dy Q Q', Rep K H M dx x → Rep K H M dy y → MRep K H M → rd dx dy M Q → Lift K H M Q Q' → r [x, y] H Q') (h1 : Ref K ta t) (h2 : Ref K tb u) : Ref K (tCB r (tCons ta (tCons tb tNil))) (dOp rd t u) := fun σ H ρ M Q Q' s q l =>
  h1 σ H ρ M _ _ s q fun v H1 d M1 f1 r1 m1 q1 => h2 σ H1 ρ M1 _ _ (s.step f1 m1) q1 fun v2 H2 d2 M2 f2 r2 m2 q2 =>
    hr v v2 H2 M2 d d2 _ _ (r1.mono f2) r2 m2 q2 (l.later (f1.trans f2))
theorem rf_fdiv : RefR K (rI CDivW fun i j => .int (i / j)) oFdiv := fun x y H M dx dy Q Q' rx ry m q l => by
  unfold oFdiv at q
  split at q
  · cases rx; cases ry
    exact ⟨_, _, rfl, rfl, wide_div (b := 200) q.1.1 (by have h1 := q.1.1; have h2 := q.1.2; omega) (by decide) (by decide), finI l m q.2⟩
  · exact q.elim
theorem rf_mod : RefR K (rI (fun _ j => 0 < j) fun i j => .int (i % j)) oMod := fun x y H M dx dy Q Q' rx ry m q l => by
  unfold oMod at q
  split at q
  · cases rx; cases ry
    exact ⟨_, _, rfl, rfl, q.1, finI l m q.2⟩
  · exact q.elim
theorem rf_pow : RefR K (rI CPow fun i j => .int (i ^ j.toNat)) oPow := fun x y H M dx dy Q Q' rx ry m q l => by
  unfold oPow at q
  split at q
  · cases rx; cases ry
    exact ⟨_, _, rfl, rfl, q.1, finI l m q.2⟩
  · exact q.elim
theorem rf_neg : RefR1 K (fun xs H Q => ∃ x, xs = [x] ∧ rU (fun i => .int (-i)) x H Q) oNeg := fun x H M dx Q Q' rx m q l => by
  unfold oNeg at q
  split at q
  · cases rx
    exact ⟨_, rfl, _, rfl, finI l m q⟩
  · exact q.elim
theorem rf_lt : RefR K (rI0 fun i j => .bl (decide (i < j))) oLt := fun x y H M dx dy Q Q' rx ry m q l => by
  unfold oLt at q
  split at q
  · cases rx; cases ry
    exact ⟨_, _, rfl, rfl, finB l m q⟩
  · exact q.elim
theorem rf_le : RefR K (rI0 fun i j => .bl (decide (i ≤ j))) oLe := fun x y H M dx dy Q Q' rx ry m q l => by
  unfold oLe at q
  split at q
  · cases rx; cases ry
    exact ⟨_, _, rfl, rfl, finB l m q⟩
  · exact q.elim
theorem rf_gt : RefR K (rI0 fun i j => .bl (decide (j < i))) oGt := fun x y H M dx dy Q Q' rx ry m q l => by
  unfold oGt at q
  split at q
  · cases rx; cases ry
    exact ⟨_, _, rfl, rfl, finB l m q⟩
  · exact q.elim
theorem rf_ge : RefR K (rI0 fun i j => .bl (decide (j ≤ i))) oGe := fun x y H M dx dy Q Q' rx ry m q l => by
  unfold oGe at q
  split at q
  · cases rx; cases ry
    exact ⟨_, _, rfl, rfl, finB l m q⟩
  · exact q.elim
/-! equality -/
mutual
def toPy : D → PyData
  | .non => .none
  | .bl b => .bool b
  | .int i => .int i
  | .str x => .str x
  | .tup xs => .tuple (toPys xs)
  | .lst xs => .list (toPys xs)
  | _ => .none
def toPys : List D → List PyData
  | [] => []
  | x :: xs => toPy x :: toPys xs
end
mutual
theorem dp_of {H : Hp} {M : Mem} : ∀ {d : D} {v : V}, plain d = true → Rep K H M d v → Dp K.K H v (toPy d)
  | .non, _, _, h => by cases h; exact .non
  | .bl b, _, _, h => by cases h; exact .bl b
  | .int i, _, _, h => by cases h; exact .int i
  | .str x, _, _, h => by cases h; exact .str x
  | .tup xs, _, p, ⟨a, vs, e, q, r⟩ => by
    subst e
    exact .tup q.sq (dps_of (by simpa [plain] using p) r)
  | .lst xs, _, p, ⟨a, vs, e, q, r⟩ => by
    subst e
    exact .lst (.of q.1) (dps_of (by simpa [plain] using p) r)
  | .ref _, _, p, _ => by simp [plain] at p
  | .rol _, _, p, _ => by simp [plain] at p
  | .dK _ _, _, p, _ => by simp [plain] at p
  | .dT _ _, _, p, _ => by simp [plain] at p
  | .ins _ _ _, _, p, _ => by simp [plain] at p
  | .ty _, _, p, _ => by simp [plain] at p
  | .cls _, _, p, _ => by simp [plain] at p
theorem dps_of {H : Hp} {M : Mem} : ∀ {ds : List D} {vs : List V}, plains ds = true → Reps K H M ds vs → DpAll K.K H vs (toPys ds)
  | [], _, _, h => by rw [show _ = [] from h]; exact .nil
  | d :: ds, _, p, ⟨v, r, e, h, t⟩ => by
    subst e
    simp only [plains, Bool.and_eq_true] at p
    exact .cons (dp_of p.1 h) (dps_of p.2 t)
end
mutual
theorem eqv_py : ∀ d e : D, plain d = true → plain e = true → PyData.eqv (toPy d) (toPy e) = eqv d e
  | .non, e, _, q => by cases e <;> simp_all [toPy, PyData.eqv, eqv, plain]
  | .bl b, e, _, q => by cases e <;> simp_all [toPy, PyData.eqv, eqv, plain]
  | .int i, e, _, q => by cases e <;> simp_all [toPy, PyData.eqv, eqv, plain]
  | .str x, e, _, q => by cases e <;> simp_all [toPy, PyData.eqv, eqv, plain]
  | .tup xs, e, p, q => by
    cases e with
    | tup ys =>
      simp only [toPy, PyData.eqv, eqv]
      exact eqvs_py xs ys (by simpa [plain] using p) (by simpa [plain] using q)
    | _ => simp_all [toPy, PyData.eqv, eqv, plain]
  | .lst xs, e, p, q => by
    cases e with
    | lst ys =>
      simp only [toPy, PyData.eqv, eqv]
      exact eqvs_py xs ys (by simpa [plain] using p) (by simpa [plain] using q)
    | _ => simp_all [toPy, PyData.eqv, eqv, plain]
  | .ref _, _, p, _ => by simp [plain] at p
  | .rol _, _, p, _ => by simp [plain] at p
  | .dK _ _, _, p, _ => by simp [plain] at p
  | .dT _ _, _, p, _ => by simp [plain] at p
  | .ins _ _ _, _, p, _ => by simp [plain] at p
  | .ty _, _, p, _ => by simp [plain] at p
  | .cls _, _, p, _ => by simp [plain] at p
theorem eqvs_py : ∀ ds es : List D, plains ds = true → plains es = true → PyData.eqvAll (toPys ds) (toPys es) = eqvs ds es
  | [], [], _, _ => by simp [toPys, PyData.eqvAll, eqvs]
  | [], _ :: _, _, _ => by simp [toPys, PyData.eqvAll, eqvs]
  | _ :: _, [], _, _ => by simp [toPys, PyData.eqvAll, eqvs]
  | d :: ds, e :: es, p, q => by
    simp only [plains, Bool.and_eq_true] at p q
    simp only [toPys, PyData.eqvAll, eqvs]
    rw [eqv_py d e p.1 q.1, eqvs_py ds es p.2 q.2]
end
mutual
theorem lay_py : ∀ d : D, plain d = true → (toPy d).canLay0 = true
  | .non, _ => by simp [toPy, PyData.canLay0]
  | .bl _, _ => by simp [toPy, PyData.canLay0]
  | .int _, _ => by simp [toPy, PyData.canLay0]
  | .str x, p => by
    simp only [toPy, PyData.canLay0]
    have q : strOk x = true := by simpa [plain] using p
    exact q
  | .tup xs, p => by
    simp only [toPy, PyData.canLay0]
    exact lays_py xs (by simpa [plain] using p)
  | .lst xs, p => by
    simp only [toPy, PyData.canLay0]
    exact lays_py xs (by simpa [plain] using p)
  | .ref _, p => by simp [plain] at p
  | .rol _, p => by simp [plain] at p
  | .dK _ _, p => by simp [plain] at p
  | .dT _ _, p => by simp [plain] at p
  | .ins _ _ _, p => by simp [plain] at p
  | .ty _, p => by simp [plain] at p
  | .cls _, p => by simp [plain] at p
theorem lays_py : ∀ ds : List D, plains ds = true → PyData.canLayAll0 (toPys ds) = true
  | [], _ => by simp [toPys, PyData.canLayAll0]
  | d :: ds, p => by
    simp only [plains, Bool.and_eq_true] at p
    simp only [toPys, PyData.canLayAll0, Bool.and_eq_true]
    exact ⟨lay_py d p.1, lays_py ds p.2⟩
end

mutual
theorem depth_py : ∀ d : D, (toPy d).depth ≤ depth d
  | .non => by simp [toPy, PyData.depth]
  | .bl _ => by simp [toPy, PyData.depth]
  | .int _ => by simp [toPy, PyData.depth]
  | .str x => by simp [toPy, PyData.depth]
  | .tup xs => by
    simp only [toPy, PyData.depth, depth]
    have := depths_py xs
    omega
  | .lst xs => by
    simp only [toPy, PyData.depth, depth]
    have := depths_py xs
    omega
  | .ref _ => by simp [toPy, PyData.depth]
  | .rol _ => by simp [toPy, PyData.depth]
  | .dK _ _ => by simp [toPy, PyData.depth]
  | .dT _ _ => by simp [toPy, PyData.depth]
  | .ins _ _ _ => by simp [toPy, PyData.depth]
  | .ty _ => by simp [toPy, PyData.depth]
  | .cls _ => by simp [toPy, PyData.depth]
theorem depths_py : ∀ ds : List D, PyData.depthAll (toPys ds) ≤ depths ds
  | [] => by simp [toPys, PyData.depthAll]
  | d :: ds => by
    simp only [toPys, PyData.depthAll, depths]
    have h1 := depth_py d
    have h2 := depths_py ds
    omega
end
theorem shaped_of {d : D} (h : cmpOk d = true) : SeqAt.shaped (toPy d) = true := by
  simp only [cmpOk, Bool.and_eq_true, decide_eq_true_eq] at h
  simp only [SeqAt.shaped, Bool.and_eq_true, decide_eq_true_eq]
  exact ⟨lay_py d h.1, Nat.le_trans (depth_py d) h.2⟩
theorem cmp_plain {d : D} (h : cmpOk d = true) : plain d = true := by
  simp only [cmpOk, Bool.and_eq_true] at h
  exact h.1
/-- a list of the memory, compared -/
theorem dp_asC {H : Hp} {M : Mem} {d : D} {v : V} (m : MRep K H M) (r : Rep K H M d v) (h : cmpOk (asC M d) = true) : Dp K.K H v (toPy (asC M d)) := by
  cases d with
  | ref a =>
    cases r
    simp only [asC] at h ⊢
    cases e : M a with
    | none => rw [e] at h; simp [cmpOk, plain] at h
    | some o =>
      rw [e] at h
      cases o with
      | lst xs =>
        obtain ⟨vs, q, rr⟩ := m.obj a _ e
        exact .lst (.of q) (dps_of (by simpa [plain] using cmp_plain h) rr)
      | _ => simp [cmpOk, plain] at h
  | _ => exact dp_of (cmp_plain h) r
def rEqAll (K : PySem.W.Frag) : L2.R2 := fun x y H Q => L2.rEq x y H Q ∨ rEqD K x y H Q
def rNeAll (K : PySem.W.Frag) : L2.R2 := fun x y H Q => L2.rNe x y H Q ∨ rNeD K x y H Q
theorem op_eqAll {X : Cx} (hu : X.A.units + 64 < cLine) : OpR X (compareOp .Eq) (rEqAll X.K) := op_eq.or (op_eqD hu)
theorem op_neAll {X : Cx} (hu : X.A.units + 64 < cLine) : OpR X (compareOp .NotEq) (rNeAll X.K) := op_ne.or (op_neD hu)
theorem dec_V {x y : V} {p : Prop} [Decidable p] (h : x = y ↔ p) : decide (x = y) = decide p := by
  by_cases c : p
  · rw [decide_eq_true c, decide_eq_true (h.mpr c)]
  · rw [decide_eq_false c, decide_eq_false (fun z => c (h.mp z))]
theorem eqB_cases {H : Hp} {M : Mem} {dx dy : D} {x y : V} {Q : BK} (rx : Rep K H M dx x) (ry : Rep K H M dy y) (m : MRep K H M) (q : eqB dx dy M Q) :
    (scal x y = true ∧ Q (decide (x = y)) M) ∨ ∃ d e, Dp K.K H x d ∧ Dp K.K H y e ∧ SeqAt.shaped d = true ∧ SeqAt.shaped e = true ∧ Q (PyData.eqv d e) M := by
  unfold eqB at q
  split at q
  · cases rx; cases ry
    exact .inl ⟨rfl, by rw [dec_V ⟨fun e => V.str.inj e, fun e => by rw [e]⟩]; exact q⟩
  · cases rx; cases ry
    exact .inl ⟨rfl, by rw [dec_V ⟨fun e => V.int.inj e, fun e => by rw [e]⟩]; exact q⟩
  · cases rx; cases ry
    exact .inl ⟨rfl, by rw [dec_V ⟨fun e => V.bl.inj e, fun e => by rw [e]⟩]; exact q⟩
  · refine .inr ⟨_, _, dp_asC m rx q.1, dp_asC m ry q.2.1, shaped_of q.1, shaped_of q.2.1, ?_⟩
    rw [eqv_py _ _ (cmp_plain q.1) (cmp_plain q.2.1)]
    exact q.2.2
theorem rf_eq : RefR K (rEqAll K.K) oEq := fun x y H M dx dy Q Q' rx ry m q l => by
  rcases eqB_cases rx ry m q with ⟨h, q⟩ | ⟨d, e, h1, h2, h3, h4, q⟩
  · exact .inl ⟨h, finB l m q⟩
  · exact .inr ⟨d, e, h1, h2, h3, h4, finB l m q⟩
theorem rf_ne : RefR K (rNeAll K.K) oNe := fun x y H M dx dy Q Q' rx ry m q l => by
  rcases eqB_cases rx ry m q with ⟨h, q⟩ | ⟨d, e, h1, h2, h3, h4, q⟩
  · exact .inl ⟨h, finB l m q⟩
  · exact .inr ⟨d, e, h1, h2, h3, h4, finB l m q⟩
theorem non_iff {H : Hp} {M : Mem} {d : D} {x : V} (r : Rep K H M d x) : decide (x = .non) = (match d with | .non => true | _ => false) := by
  cases d with
  | non => cases r; rfl
  | bl _ => cases r; rfl
  | int _ => cases r; rfl
  | str _ => cases r; rfl
  | ref _ => cases r; rfl
  | ty _ => cases r; rfl
  | cls _ => cases r; rfl
  | tup _ => obtain ⟨a, vs, rfl, _⟩ := r; rfl
  | lst _ => obtain ⟨a, vs, rfl, _⟩ := r; rfl
  | rol _ => obtain ⟨a, vs, rfl, _⟩ := r; rfl
  | dK _ _ => obtain ⟨a, vs, rfl, _⟩ := r; rfl
  | dT _ _ => obtain ⟨a, vs, rfl, _⟩ := r; rfl
  | ins _ _ _ => obtain ⟨a, dx, vs, rfl, _⟩ := r; rfl
theorem ref_isN {ta : TE} {t : DE} (h1 : Ref K ta t) : Ref K (tIsN ta) (dUn oIsN t) := fun σ H ρ M Q Q' s q l =>
  h1 σ H ρ M _ _ s q fun v H1 d M1 f1 r1 m1 q1 => by
    rw [non_iff r1]
    cases d <;> exact finB (l.later f1) m1 q1
theorem ref_notN {ta : TE} {t : DE} (h1 : Ref K ta t) : Ref K (tNotN ta) (dUn oNotN t) := fun σ H ρ M Q Q' s q l =>
  h1 σ H ρ M _ _ s q fun v H1 d M1 f1 r1 m1 q1 => by
    rw [non_iff r1]
    cases d <;> exact finB (l.later f1) m1 q1
/-! in -/
theorem flat_rep {H : Hp} {M : Mem} {d : D} {x : V} (h : flat d = true) (r : Rep K H M d x) : flatV x = true := by
  cases d with
  | non => cases r; rfl
  | bl _ => cases r; rfl
  | int _ => cases r; rfl
  | str _ => cases r; rfl
  | _ => simp [flat] at h
theorem flat_eqv {H : Hp} {M : Mem} {d e : D} {x y : V} (h : flat d = true) (g : flat e = true) (r : Rep K H M d x) (q : Rep K H M e y) : eqV x y = eqv d e := by
  cases d with
  | non => cases r; cases e <;> first | (cases q; rfl) | simp [flat] at g
  | bl _ => cases r; cases e <;> first | (cases q; rfl) | simp [flat] at g
  | int _ => cases r; cases e <;> first | (cases q; rfl) | simp [flat] at g
  | str _ => cases r; cases e <;> first | (cases q; rfl) | simp [flat] at g
  | _ => simp [flat] at h
theorem flat_all {H : Hp} {M : Mem} {x : V} {d : D} (g : flat d = true) (q : Rep K H M d x) : ∀ {ds : List D} {vs : List V}, ds.all flat = true → Reps K H M ds vs → vs.all flatV = true ∧ inV x vs = ds.any fun z => eqv z d
  | [], _, _, h => by rw [show _ = [] from h]; exact ⟨rfl, rfl⟩
  | e :: ds, _, p, ⟨v, r, e', h, t⟩ => by
    subst e'
    simp only [List.all_cons, Bool.and_eq_true] at p
    obtain ⟨h1, h2⟩ := flat_all g q p.2 t
    refine ⟨by simp only [List.all_cons, Bool.and_eq_true]; exact ⟨flat_rep p.1 h, h1⟩, ?_⟩
    unfold inV at h2 ⊢
    rw [List.any_cons, List.any_cons, h2, flat_eqv p.1 g h q]
def rInAll (K : PySem.W.Frag) : L2.R2 := fun x y H Q => (∃ (c : Nat) (z : Str), x = .str ⟨#[c]⟩ ∧ y = .str z ∧ Q (.bl (decide (c ∈ z.cps.toList))) H) ∨ rIn K false x y H Q
def rNotInAll (K : PySem.W.Frag) : L2.R2 := fun x y H Q => (∃ (c : Nat) (z : Str), x = .str ⟨#[c]⟩ ∧ y = .str z ∧ Q (.bl (!decide (c ∈ z.cps.toList))) H) ∨ rIn K true x y H Q
theorem op_inAll {X : Cx} : OpR X (compareOp .In) (rInAll X.K) := op_in_sign.or op_in_seq
theorem op_notInAll {X : Cx} : OpR X (compareOp .NotIn) (rNotInAll X.K) := op_notIn_sign.or op_notIn_seq
theorem inB_cases {H : Hp} {M : Mem} {dx dy : D} {x y : V} {Q : BK} (rx : Rep K H M dx x) (ry : Rep K H M dy y) (m : MRep K H M) (q : inB dx dy M Q) :
    (∃ (c : Nat) (z : Str), x = .str ⟨#[c]⟩ ∧ y = .str z ∧ Q (decide (c ∈ z.cps.toList)) M) ∨ (∃ p xs, y = .ref p ∧ (SqL K.K H p xs ∨ SqT K.K H p xs) ∧ flatV x = true ∧ xs.all flatV = true ∧ Q (inV x xs) M) := by
  unfold inB at q
  split at q
  · cases rx; cases ry
    obtain ⟨c, rfl, q⟩ := q
    exact .inl ⟨c, _, rfl, rfl, q⟩
  · split at q
    · rename_i ys e
      obtain ⟨a, vs, ey, h, r⟩ := asS_rep m ry e
      obtain ⟨h1, h2⟩ := flat_all q.1 rx q.2.1 r
      exact .inr ⟨a, vs, ey, h, flat_rep q.1 rx, h1, by rw [h2]; exact q.2.2⟩
    · exact q.elim
theorem rf_in : RefR K (rInAll K.K) oIn := fun x y H M dx dy Q Q' rx ry m q l => by
  rcases inB_cases rx ry m q with ⟨c, z, e1, e2, q⟩ | ⟨p, xs, e1, h, h1, h2, q⟩
  · exact .inl ⟨c, z, e1, e2, finB l m q⟩
  · exact .inr ⟨p, xs, e1, h, h1, h2, finB l m q⟩
theorem rf_notIn : RefR K (rNotInAll K.K) oNotIn := fun x y H M dx dy Q Q' rx ry m q l => by
  rcases inB_cases rx ry m q with ⟨c, z, e1, e2, q⟩ | ⟨p, xs, e1, h, h1, h2, q⟩
  · exact .inl ⟨c, z, e1, e2, finB l m q⟩
  · exact .inr ⟨p, xs, e1, h, h1, h2, finB l m q⟩
/-! subscripts -/
theorem rf_ix : RefR K (rIx K.K) oIx := fun x y H M dx dy Q Q' rx ry m q l => by
  unfold oIx at q
  split at q
  · cases rx; cases ry
    obtain ⟨h, q⟩ := q
    split at q
    · rename_i c e
      exact .inr (.inr ⟨_, _, c, rfl, rfl, szLe h, e, finS l m q⟩)
    · exact q.elim
  · cases ry
    split at q
    · rename_i xs e
      split at q
      · rename_i d e'
        obtain ⟨a, vs, rfl, h, r⟩ := asS_rep m rx e
        obtain ⟨v, hv, rv⟩ := atI_rep r e'
        rcases h with h | h
        · exact .inl ⟨a, vs, _, v, rfl, rfl, h, hv, fin l m rv q⟩
        · exact .inr (.inl ⟨a, vs, _, v, rfl, rfl, h, hv, fin l m rv q⟩)
      · exact q.elim
    · exact q.elim
  · exact q.elim
def rCutAll (K : PySem.W.Frag) : V → Option Int → Option Int → Hp → VK → Prop := fun x lo hi H Q => rSlS x lo hi H Q ∨ rSlA K x lo hi H Q ∨ rSlL K x lo hi H Q
theorem sl_all {X : Cx} : SlR X (rCutAll X.K) := sl_str.or (sl_tupA.or sl_list)
theorem cut_whole {xs : List V} {lo hi : Option Int} (h : HT.sIx xs.length 0 lo = 0 ∧ HT.sIx xs.length xs.length hi = xs.length) : cutV xs lo hi = xs := by
  unfold cutV
  rw [h.1, h.2, Nat.sub_zero, List.drop_zero, List.take_length]
theorem reps_inj_len {H : Hp} {M : Mem} {ds : List D} {vs : List V} (r : Reps K H M ds vs) : ds.length = vs.length := r.length
theorem rf_cut {x : V} {H : Hp} {M : Mem} {d : D} {lo hi : Option Int} {Q : DK} {Q' : VK} (rx : Rep K H M d x) (m : MRep K H M) (q : oCut d lo hi M Q) (l : Lift K H M Q Q') : rCutAll K.K x lo hi H Q' := by
  unfold oCut at q
  split at q
  · cases rx
    exact .inl ⟨_, rfl, szLe q.1, finS l m q.2⟩
  · rename_i xs
    obtain ⟨a, vs, rfl, h, r⟩ := id rx
    refine .inr (.inl ⟨a, vs, rfl, h.sq, fun w => ?_, fun _ p hp => ?_⟩)
    · have e : DL.cut xs lo hi = xs := by
        unfold DL.cut
        have w1 : sIx xs.length 0 lo = 0 := by rw [r.length]; exact w.1
        have w2 : sIx xs.length xs.length hi = xs.length := by rw [r.length]; exact w.2
        rw [w1, w2, Nat.sub_zero, List.drop_zero, List.take_length]
      rw [e] at q
      exact fin l m rx q
    · exact l _ _ _ _ (Fr.new hp) (rep_newT m hp (r.cut lo hi)) (m.new hp) q
  · split at q
    · rename_i xs e
      obtain ⟨a, vs, rfl, h, r⟩ := asL_rep m rx e
      exact .inr (.inr ⟨a, vs, rfl, h, fun p hp => l _ _ _ _ (Fr.new hp) (rep_newL m hp (r.cut lo hi)) (m.new hp) q⟩)
    · exact q.elim
abbrev DO := Env → Mem → (Option Int → Mem → Prop) → Prop
def RefO (K : Fg) (to : TO) (t : DO) : Prop := ∀ σ H ρ M (Q : Option Int → Mem → Prop) (Q' : Option Int → Hp → Prop), SRep K σ H ρ M → t ρ M Q → (∀ o H' M', Fr H M H' M' → MRep K H' M' → Q o M' → Q' o H') → to σ H Q'
theorem refO_none : RefO K tNoPart dNoPart := fun σ H ρ M Q Q' s q l => l none H M (Fr.refl H M) s.mem q
theorem refO_some {ta : TE} {t : DE} (h1 : Ref K ta t) : RefO K (tPart ta) (dPart t) := fun σ H ρ M Q Q' s q l =>
  h1 σ H ρ M _ _ s q fun v H1 d M1 f1 r1 m1 q1 => by
    cases d with
    | int i => cases r1; exact ⟨i, rfl, l _ H1 M1 f1 m1 q1⟩
    | _ => exact q1.elim
theorem ref_cut {te : TE} {t : DE} {tl th : TO} {dl dh : DO} (h : Ref K te t) (h1 : RefO K tl dl) (h2 : RefO K th dh) : Ref K (tSl (rCutAll K.K) te tl th) (dCut t dl dh) := fun σ H ρ M Q Q' s q l =>
  h σ H ρ M _ _ s q fun v H1 d M1 f1 r1 m1 q1 => h1 σ H1 ρ M1 _ _ (s.step f1 m1) q1 fun lo H2 M2 f2 m2 q2 => h2 σ H2 ρ M2 _ _ (s.step (f1.trans f2) m2) q2 fun hi H3 M3 f3 m3 q3 =>
    rf_cut (r1.mono (f2.trans f3)) m3 q3 (l.later ((f1.trans f2).trans f3))
/-! built-ins -/
def rLenAll (K : PySem.W.Frag) : List V → Hp → VK → Prop := fun xs H Q => ∃ x n, xs = [x] ∧ LenV K x H n ∧ Q (.int n) H
theorem rf_len : RefR1 K (rLenAll K.K) oLen := fun x H M dx Q Q' rx m q l => by
  unfold oLen at q
  split at q
  · cases rx
    exact ⟨_, _, rfl, ⟨szLe q.1, rfl⟩, finI l m q.2⟩
  · split at q
    · rename_i xs e
      obtain ⟨a, vs, rfl, h, r⟩ := asS_rep m rx e
      rw [r.length] at q
      rcases h with h | h
      · exact ⟨_, vs.length, rfl, .inl ⟨vs, h, rfl⟩, finI l m q⟩
      · exact ⟨_, vs.length, rfl, .inr ⟨vs, h, rfl⟩, finI l m q⟩
    · exact q.elim
theorem rf_abs : RefR1 K (fun xs H Q => ∃ i, xs = [.int i] ∧ Q (.int (if i < 0 then -i else i)) H) oAbs := fun x H M dx Q Q' rx m q l => by
  unfold oAbs at q
  split at q
  · cases rx; exact ⟨_, rfl, finI l m q⟩
  · exact q.elim
theorem rf_int : RefR1 K (fun xs H Q => (∃ i, xs = [.int i] ∧ Q (.int i) H) ∨ ∃ k, xs = [.bl k] ∧ Q (.int (if k then 1 else 0)) H) oInt := fun x H M dx Q Q' rx m q l => by
  unfold oInt at q
  split at q
  · cases rx; exact .inl ⟨_, rfl, finI l m q⟩
  · cases rx; exact .inr ⟨_, rfl, finI l m q⟩
  · exact q.elim
theorem rf_str : RefR1 K (fun xs H Q => ∃ i, xs = [.int i] ∧ i.natAbs.log2 < 1920 ∧ Q (.str (toString i)) H) oStr := fun x H M dx Q Q' rx m q l => by
  unfold oStr at q
  split at q
  · cases rx
    refine ⟨_, rfl, ?_, finS l m q.2⟩
    rename_i i
    by_cases z : i.natAbs = 0
    · rw [z]; decide
    · have := (Nat.log2_lt z).mpr q.1
      omega
  · exact q.elim
theorem rf_tuple : RefR1 K (fun xs H Q => ∃ p ys, xs = [.ref p] ∧ ((SqL K.K H p ys ∧ ∀ l, H l = none → Q (.ref l) (upd H l (.tup ys))) ∨ (SqT K.K H p ys ∧ Q (.ref p) H))) oTuple := fun x H M dx Q Q' rx m q l => by
  unfold oTuple at q
  split at q
  · obtain ⟨a, vs, rfl, h, r⟩ := id rx
    exact ⟨a, vs, rfl, .inr ⟨h.sq, fin l m rx q⟩⟩
  · split at q
    · rename_i xs e
      obtain ⟨a, vs, rfl, h, r⟩ := asL_rep m rx e
      exact ⟨a, vs, rfl, .inl ⟨h, fun p hp => l _ _ _ _ (Fr.new hp) (rep_newT m hp r) (m.new hp) q⟩⟩
    · exact q.elim
theorem rf_list : RefR1 K (fun xs H Q => ∃ p ys, xs = [.ref p] ∧ (SqL K.K H p ys ∨ SqT K.K H p ys) ∧ ∀ l, H l = none → Q (.ref l) (upd H l (.lst ys))) oList := fun x H M dx Q Q' rx m q l => by
  unfold oList at q
  split at q
  · rename_i xs e
    obtain ⟨a, vs, rfl, h, r⟩ := asS_rep m rx e
    exact ⟨a, vs, rfl, h, fun p hp => l _ _ _ _ (Fr.new hp) (rep_newL m hp r) (m.new hp) q⟩
  · exact q.elim
theorem dBools_rep {H : Hp} {M : Mem} : ∀ {ds : List D} {vs : List V} {bs : List Bool}, dBools ds = some bs → Reps K H M ds vs → vs = bs.map V.bl
  | [], _, _, e, h => by cases e; rw [show _ = [] from h]; rfl
  | .bl b :: r, _, bs, e, ⟨v, w, rfl, h, t⟩ => by
    unfold dBools at e
    cases q : dBools r with
    | none => rw [q] at e; cases e
    | some cs =>
      rw [q] at e
      cases e
      cases h
      rw [dBools_rep q t]
      rfl
  | .non :: _, _, _, e, _ => by cases e
  | .int _ :: _, _, _, e, _ => by cases e
  | .str _ :: _, _, _, e, _ => by cases e
  | .ref _ :: _, _, _, e, _ => by cases e
  | .tup _ :: _, _, _, e, _ => by cases e
  | .lst _ :: _, _, _, e, _ => by cases e
  | .rol _ :: _, _, _, e, _ => by cases e
  | .dK _ _ :: _, _, _, e, _ => by cases e
  | .dT _ _ :: _, _, _, e, _ => by cases e
  | .ins _ _ _ :: _, _, _, e, _ => by cases e
  | .ty _ :: _, _, _, e, _ => by cases e
  | .cls _ :: _, _, _, e, _ => by cases e
theorem dInts_rep {H : Hp} {M : Mem} : ∀ {ds : List D} {vs : List V} {bs : List Int}, dInts ds = some bs → Reps K H M ds vs → vs = bs.map V.int
  | [], _, _, e, h => by cases e; rw [show _ = [] from h]; rfl
  | .int b :: r, _, bs, e, ⟨v, w, rfl, h, t⟩ => by
    unfold dInts at e
    cases q : dInts r with
    | none => rw [q] at e; cases e
    | some cs =>
      rw [q] at e
      cases e
      cases h
      rw [dInts_rep q t]
      rfl
  | .non :: _, _, _, e, _ => by cases e
  | .bl _ :: _, _, _, e, _ => by cases e
  | .str _ :: _, _, _, e, _ => by cases e
  | .ref _ :: _, _, _, e, _ => by cases e
  | .tup _ :: _, _, _, e, _ => by cases e
  | .lst _ :: _, _, _, e, _ => by cases e
  | .rol _ :: _, _, _, e, _ => by cases e
  | .dK _ _ :: _, _, _, e, _ => by cases e
  | .dT _ _ :: _, _, _, e, _ => by cases e
  | .ins _ _ _ :: _, _, _, e, _ => by cases e
  | .ty _ :: _, _, _, e, _ => by cases e
  | .cls _ :: _, _, _, e, _ => by cases e
theorem rf_all : RefR1 K (rAll K.K) oAll := fun x H M dx Q Q' rx m q l => by
  unfold oAll at q
  split at q
  · rename_i bs e
    obtain ⟨xs, e1, e2⟩ := Option.bind_eq_some_iff.mp e
    obtain ⟨a, vs, rfl, h, r⟩ := asL_rep m rx e1
    exact ⟨a, bs, rfl, dBools_rep e2 r ▸ h, finB l m q⟩
  · exact q.elim
theorem rf_any : RefR1 K (rAny K.K) oAny := fun x H M dx Q Q' rx m q l => by
  unfold oAny at q
  split at q
  · rename_i bs e
    obtain ⟨xs, e1, e2⟩ := Option.bind_eq_some_iff.mp e
    obtain ⟨a, vs, rfl, h, r⟩ := asL_rep m rx e1
    exact ⟨a, bs, rfl, dBools_rep e2 r ▸ h, finB l m q⟩
  · exact q.elim
theorem rf_sum : RefR1 K (rSum K.K) oSum := fun x H M dx Q Q' rx m q l => by
  unfold oSum at q
  split at q
  · rename_i bs e
    obtain ⟨xs, e1, e2⟩ := Option.bind_eq_some_iff.mp e
    obtain ⟨a, vs, rfl, h, r⟩ := asL_rep m rx e1
    exact ⟨a, bs, rfl, dInts_rep e2 r ▸ h, finI l m q⟩
  · exact q.elim
/-! isinstance -/
def kinds7 : List String := ["NoneType", "bool", "int", "str", "tuple", "list", "dict"]
def kitT (T : String) : Bool := kinds7.all fun a => kitB a T == some (a == T || (T == "int" && a == "bool"))
theorem tyX_of {H : Hp} {M : Mem} {d : D} {x : V} (m : MRep K H M) (r : Rep K H M d x) (h : tyOf M d ≠ "") : TyX K.K H x (.type (tyOf M d)) ∧ tyOf M d ∈ kinds7 := by
  cases d with
  | non => cases r; exact ⟨.base .non, by simp [tyOf, kinds7]⟩
  | bl b => cases r; exact ⟨.base (.bl b), by simp [tyOf, kinds7]⟩
  | int b => cases r; exact ⟨.base (.int b), by simp [tyOf, kinds7]⟩
  | str b => cases r; exact ⟨.base (.str b), by simp [tyOf, kinds7]⟩
  | tup ds =>
    obtain ⟨a, vs, rfl, q, _⟩ := r
    refine ⟨?_, by simp [tyOf, kinds7]⟩
    rcases q with ⟨q, _⟩ | ⟨o, _, _, q, c, _⟩
    · exact .base (.tup q)
    · exact .kTuple q c
  | lst ds => obtain ⟨a, vs, rfl, q, _⟩ := r; exact ⟨.base (.lst q.1), by simp [tyOf, kinds7]⟩
  | dK _ _ => obtain ⟨a, vs, rfl, q, _⟩ := r; exact ⟨.base (.dK q.1), by simp [tyOf, kinds7]⟩
  | dT _ _ => obtain ⟨a, vs, rfl, q, _⟩ := r; exact ⟨.base (.dT q.1), by simp [tyOf, kinds7]⟩
  | ref a =>
    cases r
    simp only [tyOf] at h ⊢
    cases e : M a with
    | none => rw [e] at h; exact absurd rfl h
    | some o =>
      rw [e] at h
      cases o with
      | lst _ => obtain ⟨vs, q, _⟩ := m.obj a _ e; exact ⟨.base (.lst q), by simp [tyOf, kinds7]⟩
      | dK _ _ => obtain ⟨vs, q, _⟩ := m.obj a _ e; exact ⟨.base (.dK q), by simp [tyOf, kinds7]⟩
      | dT _ _ => obtain ⟨vs, q, _⟩ := m.obj a _ e; exact ⟨.base (.dT q), by simp [tyOf, kinds7]⟩
      | _ => exact absurd rfl h
  | _ => exact absurd rfl h
theorem rf_isi {T : String} (hT : kitT T = true) {ta : TE} {t : DE} (h1 : Ref K ta t) : Ref K (tCB (rIsi K.K) (tCons ta (tCons (tC (.ty T)) tNil))) (dUn (oIsi T) t) := fun σ H ρ M Q Q' s q l =>
  h1 σ H ρ M _ _ s q fun v H1 d M1 f1 r1 m1 q1 => by
    obtain ⟨h, q1⟩ := q1
    obtain ⟨ty, hm⟩ := tyX_of m1 r1 h
    have e : kitB (tyOf M1 d) T = some (tyOf M1 d == T || (T == "int" && tyOf M1 d == "bool")) := by
      unfold kitT at hT
      rw [List.all_eq_true] at hT
      exact eq_of_beq (hT _ hm)
    exact ⟨v, _, _, _, _, rfl, .ty T, ty, kit_ty e, finB (l.later f1) m1 q1⟩
end
end DL
/-! DLE: enumerate over tuples; a for over a list, a tuple or a text. -/
namespace DLE
open PySem PySem.Spec PyProof.Rows L2
open AutoSeq1 (wpAny_loadPart')

theorem meets_enumerate_newT (l : Addr) (items : Array Value) (n : Nat) (dct : Option Addr) (sl : Array (Option Value)) :
    Meets (Builtin.«enumerate.__new__» ⟨[.type "enumerate", .ref l], []⟩) (fun _ R s => s.heap.get? l = some { cls := .type "tuple", dict := dct, data := .seq items n, slots := sl } ∧
      R (.ok (.ret (.ref (s.heap.push { cls := .type "tuple_iterator", data := .fields #[.ref l, .int 0 0] }).objs.size)))
        { s with heap := (s.heap.push { cls := .type "tuple_iterator", data := .fields #[.ref l, .int 0 0] }).push { cls := .type "enumerate", data := .fields #[.none, .bool false, .ref s.heap.objs.size, rawInt 0, .none, .none] } }) :=
  .of_wp fun prog w A R s h => by
    obtain ⟨hp, g, d, tk, os⟩ := s; obtain ⟨hl, h⟩ := h
    have hsub := sub_enumerate
    have hL : Heap.IsTuple (Shared.heap ⟨hp, g, d, tk, os⟩) l items := ⟨_, hl, rfl, n, rfl⟩
    wp_walk using wpAny_loadPart' hl
    refine wpAny_stack_any fun st => wpAny_pure ?_
    split
    · rename_i c _ _ _ _ _
      cases (c == Value.type "enumerate")
      · wp_walk using wpAny_loadPart' hl, wpAny_pyIter_tuple hL
        exact ⟨_, rfl, h⟩
      · wp_walk using wpAny_loadPart' hl, wpAny_pyIter_tuple hL
        exact ⟨_, rfl, h⟩
    · wp_walk using wpAny_loadPart' hl, wpAny_pyIter_tuple hL
      exact ⟨_, rfl, h⟩
theorem call_enumerate_tuple {prog : Program} {w : World} {A : Around} {E : Value → Shared → Prop} {s : Shared} {l : Addr} {items : Array Value} {Q : Value → Shared → Prop} (hL : s.heap.IsTuple l items)
    (h : ∀ h', IsEnum h' (s.heap.objs.size + 1) s.heap.objs.size 0 .none → h'.IsTupleIter s.heap.objs.size l 0 → h'.objs.size = s.heap.objs.size + 2 →
      (∀ b o, s.heap.get? b = some o → h'.get? b = some o) → Q (.ref (s.heap.objs.size + 1)) { s with heap := h' }) :
    wpAny (model prog w) A (call (.type "enumerate") [.ref l]) Q E s := by
  obtain ⟨⟨c, dct, dt, sl⟩, hl, hc, n, hd⟩ := hL
  replace hc : c = .type "tuple" := hc
  replace hd : dt = .seq items n := hd
  subst hc hd
  refine callType_new F.called_enumerate (by decide) (F.typeCall_enumerate_1 _) (F.newCall_enumerate_1 _) (fun obj => F.args_object_init_2 obj _) F.entry_enumerate_new
    (meets_enumerate_newT l items n dct sl) ⟨hl, ?_⟩
  have hz : (s.heap.push { cls := .type "tuple_iterator", data := .fields #[.ref l, .int 0 0] }).objs.size = s.heap.objs.size + 1 := Heap.size_push ..
  show _ ∧ _
  rw [hz]
  have he : IsEnum ((s.heap.push { cls := .type "tuple_iterator", data := .fields #[.ref l, .int 0 0] }).push
      { cls := .type "enumerate", data := .fields #[.none, .bool false, .ref s.heap.objs.size, rawInt 0, .none, .none] }) (s.heap.objs.size + 1) s.heap.objs.size 0 .none := by
    have := Heap.get?_push_size (s.heap.push { cls := .type "tuple_iterator", data := .fields #[.ref l, .int 0 0] })
      (o := { cls := .type "enumerate", data := .fields #[.none, .bool false, .ref s.heap.objs.size, rawInt 0, .none, .none] }) rfl
    rw [hz] at this; exact this
  refine ⟨⟨_, he, rfl⟩, h _ he ⟨_, Heap.get?_push_of_some _ (Heap.get?_push_size _ rfl), rfl, rfl⟩ (by rw [Heap.size_push, hz]) fun b o x => Heap.get?_push_of_some _ (Heap.get?_push_of_some _ x)⟩

/-- the tuple at a, each item in a new pair -/
def IteT (K : PySem.W.Frag) (a : Addr) : It :=
  ⟨fun i H => ∃ (xs : List V) (x : V), SqT K H a xs ∧ xs[i]? = some x, fun i H v H' => ∃ T x, v = .ref T ∧ H T = none ∧ H' = upd H T (.tup [.int (i : Nat), x]) ∧ ∀ xs, SqT K H a xs → xs[i]? = some x, fun i H => ∃ xs : List V, SqT K H a xs ∧ xs.length = i⟩
theorem tup_ne {h : Heap} {a it : Addr} {i : Nat} {items : Array Value} (p : h.IsTuple a items) (q : h.IsTupleIter it a i) : a ≠ it := by
  rintro rfl
  obtain ⟨o, ho, hc, _⟩ := p
  obtain ⟨o', ho', hc', _⟩ := q
  rw [ho] at ho'
  cases ho'
  rw [hc] at hc'
  simp at hc'
theorem enum_ne {h : Heap} {a e it : Addr} {i : Int} {old : Value} {items : Array Value} (p : h.IsTuple a items) (q : IsEnum h e it i old) : e ≠ a := by
  rintro rfl
  obtain ⟨o, ho, hc, _⟩ := p
  have q' : h.get? e = some _ := q
  rw [ho] at q'
  cases q'
  simp at hc
theorem turn_enumT {P : Program} {w : World} {K : PySem.W.Frag} {elts : List Expr} {kk : Nat} {tpos : Pos} (a e it : Addr) :
    Turn P w K (.Tuple elts kk tpos) (IteT K a) [e, it] e (fun i h => (∃ old, IsEnum h e it ((i : Nat) : Int) old) ∧ h.IsTupleIter it a i ∧ e ≠ it) where
  mem := by simp
  obj := fun i h st b hb => by
    obtain ⟨⟨old, he⟩, ⟨o, ho, hc, hd⟩, _⟩ := st
    have e' : b = e ∨ b = it := by simpa using hb
    rcases e' with z | z
    · rw [z]; exact ⟨_, he, fun v q => nomatch q⟩
    · rw [z]; exact ⟨o, ho, fun v q => by rw [hd] at q; cases q⟩
  keep := fun i h h' st k => let ⟨⟨old, he⟩, hi, hne⟩ := st; ⟨⟨old, k e (by simp) _ he⟩, hi.at fun o q => k it (by simp) o q, hne⟩
  item := by
    intro X hP hw hK hc i pins s σ H E I hf st hg
    subst hP hw hK
    obtain ⟨⟨old, he⟩, hit, hne⟩ := st
    obtain ⟨xs, x, hq, hx⟩ := hg
    obtain ⟨its, rv, p, hz⟩ := I.tuple hq
    obtain ⟨u, hu, ru⟩ := rv.get hx
    have p' : s.heap.IsTuple a its.toArray := p
    have hel : e < s.heap.objs.size := Heap.lt_size he
    have hil : it < s.heap.objs.size := by obtain ⟨_, q, _⟩ := hit; exact Heap.lt_size q
    have hai : a ≠ it := tup_ne p' hit
    have hea : e ≠ a := enum_ne p' he
    have hlt : i < its.toArray.size := by
      have : i < its.length := (List.getElem?_eq_some_iff.mp hu).1
      simpa using this
    refine wpAny_pyNext_enum_itemD (Draws.tuple (prog := X.prog) (w := X.w) (A := X.A.in1) (I.ok.hd hc) it a hai its.toArray) he ⟨hit, p'⟩ hlt hne (by simp [hne, hea]) fun x' h' tk hP ho hit' hT hsz hk => ?_
    have hP' : its.toArray[i]? = some x' := hP
    have ex : x' = u := by
      rw [List.getElem?_toArray] at hP'
      rw [hu] at hP'
      exact (Option.some.inj hP').symm
    subst ex
    refine ⟨_, rfl, wpAny_letOwnedTupleGo_enum (s := { s with heap := h', toks := tk + 1 }) ho fun h'' he' sb => ?_⟩
    have hT2 : h''.get? s.heap.objs.size = some { cls := .type "tuple", data := .seq #[.int i tk, x'] } := (sb.2 _ (Nat.ne_of_gt hel)).trans hT
    have new : ObjOk X.prog X.w (upd H s.heap.objs.size (.tup [.int (i : Nat), x])) h'' s.heap.objs.size (.tup [.int (i : Nat), x]) :=
      ⟨by show 2 ≤ sizeLine; decide, [.int i tk, x'], .cons ⟨_, rfl⟩ (.cons ru .nil), ⟨_, hT2, rfl, _, rfl⟩⟩
    have I1 : Inv X pins σ (upd H s.heap.objs.size (.tup [.int (i : Nat), x])) { s with heap := h'', toks := tk + 1 } :=
      I.turnedNew (ch := [e, it]) (fun b ob hb q => (sb.2 b (fun z => hb (by simp [z]))).trans (hk b ob (fun z => hb (by simp [z])) (fun z => hb (by simp [z])) q)) hf (Nat.le_refl _) new
    refine ⟨.ref s.heap.objs.size, _, I1, rfl, ⟨_, x, rfl, I.hok.fresh (Nat.le_refl _), rfl, fun ys hy => by rw [I.tuple_inj hy hq]; exact hx⟩, ⟨⟨x', ?_⟩, hit'.1.at fun o q => (sb.2 it (Ne.symm hne)).trans q, hne⟩, fun b hb => ?_⟩
    · have e1 : ((i + 1 : Nat) : Int) = (i : Int) + 1 := by omega
      rw [e1]; exact he'
    · have hb' : b < s.heap.objs.size := by
        have e' : b = e ∨ b = it := by simpa using hb
        rcases e' with z | z
        · rw [z]; exact hel
        · rw [z]; exact hil
      rw [upd_ne (Nat.ne_of_lt hb')]
      exact (hf b hb).1
  done := by
    intro X hP hw hK hc i pins s σ H E I hf st hg
    subst hP hw hK
    obtain ⟨⟨old, he⟩, hit, hne⟩ := st
    obtain ⟨xs, hq, hx⟩ := hg
    obtain ⟨its, rv, p, hz⟩ := I.tuple hq
    have p' : s.heap.IsTuple a its.toArray := p
    obtain ⟨f0, f1, f2, f3, f4, f5⟩ := hf it (by simp)
    have hl := rv.length
    have hi : i = its.toArray.size := by simp; omega
    exact wpAny_pyNext_enum_endD (Draws.tuple (prog := X.prog) (w := X.w) (A := X.A.in1) (I.ok.hd hc) it a (tup_ne p' hit) its.toArray) he ⟨hi ▸ hit, p'⟩ fun h' eb => ⟨rfl, I.turned (t' := s.toks) (fun b o hb q => eb b o hb q) f0 f1 f3 f4 f5⟩
  self := fun A i s Q E st h => let ⟨⟨_, he⟩, _⟩ := st; wpAny_pyIter_enum he h
def iEnumA (K : PySem.W.Frag) (ta : TA) : TI := fun σ H R => ta σ H fun vs H1 => ∃ a xs, vs = [.ref a] ∧ ((SqL K H1 a xs ∧ R (Ite K a) H1) ∨ (SqT K H1 a xs ∧ R (IteT K a) H1))
theorem pi_enumA {X : Cx} {e : Expr} {ta : TA} {p pos tpos : Pos} {elts : List Expr} {kk : Nat} (hg : Gl X "enumerate") (hm : X.mg "enumerate" = none) (ha : PA X [e] ta) (hs : starEach [e] X.env = [(false, eval e X.env)] := by rfl) :
    PI X (.Tuple elts kk tpos) (.Call (.Name "enumerate" p) [e] [] pos) (iEnumA X.K ta) := by
  refine ⟨fun pins s σ H R I h => ?_⟩
  refine Call_ (ld_blt I hg hm boot_enumerate (PyProof.Rows.callWith_type1 (thn (ha.run pos pins s σ H _ I h) fun us s1 ⟨vs, H1, I1, r1, q1⟩ => ?_) hs rfl))
  obtain ⟨a, xs, ex, q1⟩ := q1
  subst ex
  cases r1 with
  | cons r rr =>
    cases rr
    cases r
    have fre : ∀ b, b ∈ [s1.heap.objs.size + 1, s1.heap.objs.size] → FpOk X pins H1 b := fun b hb => by
      have e' : b = s1.heap.objs.size + 1 ∨ b = s1.heap.objs.size := by simpa using hb
      have hle : s1.heap.objs.size ≤ b := by
        rcases e' with z | z
        · rw [z]; exact Nat.le_add_right _ _
        · rw [z]; exact Nat.le_refl _
      exact I1.fpOk hle (I1.hok.fresh hle)
    rcases q1 with ⟨hq, q⟩ | ⟨hq, q⟩
    · obtain ⟨its, rv, p', hz⟩ := I1.list hq
      refine call_enumerate_list p'.isList fun h' he hit hsz hk => wpAny_pyIter_enum he ?_
      have I2 : Inv X pins σ H1 { s1 with heap := h' } := I1.kept (t' := s1.toks) hk
      exact ⟨s1.heap.objs.size + 1, [s1.heap.objs.size + 1, s1.heap.objs.size], _, _, H1, rfl, I2, turn_enum a (s1.heap.objs.size + 1) s1.heap.objs.size, ⟨⟨.none, he⟩, hit, Nat.succ_ne_self _⟩, fre, q⟩
    · obtain ⟨its, rv, p', hz⟩ := I1.tuple hq
      refine call_enumerate_tuple (show s1.heap.IsTuple a its.toArray from p') fun h' he hit hsz hk => wpAny_pyIter_enum he ?_
      have I2 : Inv X pins σ H1 { s1 with heap := h' } := I1.kept (t' := s1.toks) hk
      exact ⟨s1.heap.objs.size + 1, [s1.heap.objs.size + 1, s1.heap.objs.size], _, _, H1, rfl, I2, turn_enumT a (s1.heap.objs.size + 1) s1.heap.objs.size, ⟨⟨.none, he⟩, hit, Nat.succ_ne_self _⟩, fre, q⟩
/-- a list, a tuple or a text walked -/
def iAny (K : PySem.W.Frag) (tl : TE) : TI := fun σ H R => tl σ H fun x H1 => (∃ a, x = .ref a ∧ (∃ xs, SqL K H1 a xs) ∧ R (Itl K a) H1) ∨ (∃ a, x = .ref a ∧ (∃ xs, SqT K H1 a xs) ∧ R (Itt K a) H1) ∨ (∃ z, x = .str z ∧ R (Its z) H1)
def tK (x : V) : TE := fun _ H Q => Q x H
theorem pi_any {X : Cx} {tg l : Expr} {tl : TE} (hl : PE X l tl) : PI X tg l (iAny X.K tl) := by
  refine ⟨fun pins s σ H R I h => ?_⟩
  refine thn (hl.run pins s σ H _ I h) fun v s1 ⟨x, H1, I1, r1, q1⟩ => ?_
  rcases q1 with ⟨a, e, ⟨xs, hq⟩, q⟩ | ⟨a, e, ⟨xs, hq⟩, q⟩ | ⟨z, e, q⟩
  · subst e
    cases r1
    obtain ⟨its, rv, p, hz⟩ := I1.list hq
    refine wpAny_pyIter_list p.isList ?_
    refine ⟨s1.heap.objs.size, [s1.heap.objs.size], _, _, H1, rfl, I1.kept (t' := s1.toks) fun b o e => Heap.get?_push_of_some _ e, turn_list a _, ⟨_, Heap.get?_push_size _ rfl, rfl, rfl⟩, fun b hb => ?_, q⟩
    have e : b = s1.heap.objs.size := by simpa using hb
    subst e
    exact I1.fpOk (Nat.le_refl _) (I1.hok.fresh (Nat.le_refl _))
  · subst e
    cases r1
    obtain ⟨its, rv, p, hz⟩ := I1.tuple hq
    refine wpAny_pyIter_tuple (show s1.heap.IsTuple a its.toArray from p) ?_
    refine ⟨s1.heap.objs.size, [s1.heap.objs.size], _, _, H1, rfl, I1.kept (t' := s1.toks) fun b o e => Heap.get?_push_of_some _ e, turn_tuple a _, ⟨_, Heap.get?_push_size _ rfl, rfl, rfl⟩, fun b hb => ?_, q⟩
    have e : b = s1.heap.objs.size := by simpa using hb
    subst e
    exact I1.fpOk (Nat.le_refl _) (I1.hok.fresh (Nat.le_refl _))
  · have h2 : wpAny (model X.prog X.w) X.A (eval l X.env) (fun v s₁ => wpAny (model X.prog X.w) X.A (pyIter v) (PIE X pins σ tg R) X.xe s₁) X.xe s → True := fun _ => trivial
    subst e
    obtain ⟨t, rfl⟩ := r1
    cases ha : z.cps.all (· < 128)
    · refine wpAny_pyIter_wide ha ?_
      refine ⟨s1.heap.objs.size, [s1.heap.objs.size], _, _, H1, rfl, I1.kept (t' := s1.toks) fun b o e => Heap.get?_push_of_some _ e, turn_str s1.heap.objs.size z t "str_iterator" (.inr rfl), ⟨_, Heap.get?_push_size _ rfl, rfl, rfl⟩, fun b hb => ?_, q⟩
      have e : b = s1.heap.objs.size := by simpa using hb
      subst e
      exact I1.fpOk (Nat.le_refl _) (I1.hok.fresh (Nat.le_refl _))
    · refine wpAny_pyIter_ascii ha ?_
      refine ⟨s1.heap.objs.size, [s1.heap.objs.size], _, _, H1, rfl, I1.kept (t' := s1.toks) fun b o e => Heap.get?_push_of_some _ e, turn_str s1.heap.objs.size z t "str_ascii_iterator" (.inl rfl), ⟨_, Heap.get?_push_size _ rfl, rfl, rfl⟩, fun b hb => ?_, q⟩
      have e : b = s1.heap.objs.size := by simpa using hb
      subst e
      exact I1.fpOk (Nat.le_refl _) (I1.hok.fresh (Nat.le_refl _))
end DLE
/-! DLQ: walks, statements, calls, defs. -/
namespace DL
open PySem PySem.Spec PyProof.Rows L2

section
variable {K : Fg} {H : Hp} {M : Mem}
/-! ### what is walked -/
theorem gives_list {a : Addr} {vs : List V} {ds : List D} (sq : ∀ H' M', Fr H M H' M' → SqL K.K H' a vs) (r : Reps K H M ds vs) : Gives K (Itl K.K a) ds H M where
  go := fun i H' M' f hi => ⟨vs, vs[i]'(by rw [← r.length]; exact hi), sq H' M' f, by simp⟩
  stop := fun H' M' f => ⟨vs, sq H' M' f, by rw [r.length]; exact Nat.le_refl _⟩
  yld := fun P' hP i H' M' x H2 f m y d e => by
    obtain ⟨e2, y⟩ := y
    subst e2
    obtain ⟨v, hv, rv⟩ := r.get e
    have := y vs (sq _ M' f)
    rw [hv] at this
    cases this
    exact ⟨Fr.refl _ _, m, (rv.hides hP).mono f⟩
theorem gives_tup {a : Addr} {vs : List V} {ds : List D} (sq : ∀ H' M', Fr H M H' M' → SqT K.K H' a vs) (r : Reps K H M ds vs) : Gives K (Itt K.K a) ds H M where
  go := fun i H' M' f hi => ⟨vs, vs[i]'(by rw [← r.length]; exact hi), sq H' M' f, by simp⟩
  stop := fun H' M' f => ⟨vs, sq H' M' f, by rw [r.length]; exact Nat.le_refl _⟩
  yld := fun P' hP i H' M' x H2 f m y d e => by
    obtain ⟨e2, y⟩ := y
    subst e2
    obtain ⟨v, hv, rv⟩ := r.get e
    have := y vs (sq _ M' f)
    rw [hv] at this
    cases this
    exact ⟨Fr.refl _ _, m, (rv.hides hP).mono f⟩
theorem chars_get {z : Str} {i : Nat} {d : D} (e : (chars z)[i]? = some d) : ∃ c, z.cps[i]? = some c ∧ d = .str ⟨#[c]⟩ := by
  unfold chars at e
  rw [List.getElem?_map] at e
  cases q : z.cps.toList[i]? with
  | none => rw [q] at e; cases e
  | some c =>
    rw [q] at e
    cases e
    exact ⟨c, by rw [← Array.getElem?_toList]; exact q, rfl⟩
theorem gives_str {z : Str} : Gives K (Its z) (chars z) H M where
  go := fun i H' M' f hi => by
    have : (chars z).length = z.cps.size := by unfold chars; simp
    show i < z.cps.size
    omega
  stop := fun H' M' f => by
    show z.cps.size ≤ (chars z).length
    unfold chars; simp
  yld := fun P' hP i H' M' x H2 f m y d e => by
    obtain ⟨e2, c, hc, ex⟩ := y
    subst e2 ex
    obtain ⟨c', hc', rfl⟩ := chars_get e
    rw [hc] at hc'
    cases hc'
    exact ⟨Fr.refl _ _, m, rfl⟩
theorem gives_range {n : Nat} : Gives K (Itr 0 n) (upTo n) H M where
  go := fun i H' M' f hi => by
    show i < n
    simpa [upTo] using hi
  stop := fun H' M' f => by
    show n ≤ (upTo n).length
    simp [upTo]
  yld := fun P' hP i H' M' x H2 f m y d e => by
    obtain ⟨e2, ex⟩ := y
    subst e2 ex
    unfold upTo at e
    rw [List.getElem?_map] at e
    cases q : (List.range n)[i]? with
    | none => rw [q] at e; cases e
    | some j =>
      rw [q] at e
      cases e
      have hj : i < n ∧ j = i := by
        rw [List.getElem?_eq_some_iff] at q
        obtain ⟨h1, h2⟩ := q
        simp at h1 h2
        exact ⟨h1, h2.symm⟩
      refine ⟨Fr.refl _ _, m, ?_⟩
      show V.int (0 + (i : Int)) = V.int (j : Int)
      rw [hj.2, Int.zero_add]
theorem enumD_length : ∀ (n : Nat) (ds : List D), (enumD n ds).length = ds.length
  | _, [] => rfl
  | n, _ :: ds => by simp only [enumD, List.length_cons, enumD_length (n + 1) ds]
theorem enumD_get : ∀ (n : Nat) (ds : List D) (i : Nat) (d : D), (enumD n ds)[i]? = some d → ∃ e, ds[i]? = some e ∧ d = .tup [.int ((n + i : Nat) : Int), e]
  | _, [], _, _, h => by simp [enumD] at h
  | n, x :: ds, 0, d, h => by
    simp only [enumD, List.getElem?_cons_zero, Option.some.injEq] at h
    exact ⟨x, rfl, h.symm⟩
  | n, x :: ds, i + 1, d, h => by
    simp only [enumD, List.getElem?_cons_succ] at h
    obtain ⟨e, h1, h2⟩ := enumD_get (n + 1) ds i d h
    refine ⟨e, by rw [List.getElem?_cons_succ]; exact h1, ?_⟩
    rw [h2, show n + 1 + i = n + (i + 1) by omega]
theorem pair_new {H' H2 : Hp} {M' : Mem} {T : Addr} {x y : V} {d e : D} (m : MRep K H' M') (hT : H' T = none) (rx : Rep K H' M' d x) (ry : Rep K H' M' e y) (e2 : H2 = upd H' T (.tup [x, y])) :
    Fr H' M' H2 M' ∧ MRep K H2 M' ∧ Rep K H2 M' (.tup [d, e]) (.ref T) := by
  subst e2
  exact ⟨Fr.new hT, m.new hT, rep_newT m hT ⟨x, [y], rfl, rx, y, [], rfl, ry, rfl⟩⟩
theorem gives_enumL {a : Addr} {vs : List V} {ds : List D} (sq : ∀ H' M', Fr H M H' M' → SqL K.K H' a vs) (r : Reps K H M ds vs) : Gives K (Ite K.K a) (enumD 0 ds) H M where
  go := fun i H' M' f hi => ⟨vs, vs[i]'(by rw [← r.length, ← enumD_length 0]; exact hi), sq H' M' f, by simp⟩
  stop := fun H' M' f => ⟨vs, sq H' M' f, by rw [enumD_length, r.length]; exact Nat.le_refl _⟩
  yld := fun P' hP i H' M' x H2 f m y d e => by
    obtain ⟨T, z, rfl, hT, e2, y⟩ := y
    obtain ⟨e', h1, rfl⟩ := enumD_get 0 ds i d e
    obtain ⟨v, hv, rv⟩ := r.get h1
    have := y vs (sq _ M' f)
    rw [hv] at this
    cases this
    refine pair_new m hT ?_ ((rv.hides hP).mono f) e2
    show V.int (i : Int) = V.int ((0 + i : Nat) : Int)
    rw [Nat.zero_add]
theorem gives_enumT {a : Addr} {vs : List V} {ds : List D} (sq : ∀ H' M', Fr H M H' M' → SqT K.K H' a vs) (r : Reps K H M ds vs) : Gives K (DLE.IteT K.K a) (enumD 0 ds) H M where
  go := fun i H' M' f hi => ⟨vs, vs[i]'(by rw [← r.length, ← enumD_length 0]; exact hi), sq H' M' f, by simp⟩
  stop := fun H' M' f => ⟨vs, sq H' M' f, by rw [enumD_length, r.length]⟩
  yld := fun P' hP i H' M' x H2 f m y d e => by
    obtain ⟨T, z, rfl, hT, e2, y⟩ := y
    obtain ⟨e', h1, rfl⟩ := enumD_get 0 ds i d e
    obtain ⟨v, hv, rv⟩ := r.get h1
    have := y vs (sq _ M' f)
    rw [hv] at this
    cases this
    refine pair_new m hT ?_ ((rv.hides hP).mono f) e2
    show V.int (i : Int) = V.int ((0 + i : Nat) : Int)
    rw [Nat.zero_add]
theorem zipD_length : ∀ (ds es : List D), (zipD ds es).length = min ds.length es.length
  | [], _ => by simp [zipD]
  | _ :: _, [] => by simp [zipD]
  | d :: ds, e :: es => by simp only [zipD, List.length_cons, zipD_length ds es]; omega
theorem zipD_get : ∀ (ds es : List D) (i : Nat) (d : D), (zipD ds es)[i]? = some d → ∃ x y, ds[i]? = some x ∧ es[i]? = some y ∧ d = .tup [x, y]
  | [], _, _, _, h => by simp [zipD] at h
  | _ :: _, [], _, _, h => by simp [zipD] at h
  | x :: ds, y :: es, 0, d, h => by
    simp only [zipD, List.getElem?_cons_zero, Option.some.injEq] at h
    exact ⟨x, y, rfl, rfl, h.symm⟩
  | x :: ds, y :: es, i + 1, d, h => by
    simp only [zipD, List.getElem?_cons_succ] at h ⊢
    exact zipD_get ds es i d h
theorem gives_zipL {a b : Addr} {vs ws : List V} {ds es : List D} (sq : ∀ H' M', Fr H M H' M' → SqL K.K H' a vs) (sq2 : ∀ H' M', Fr H M H' M' → SqL K.K H' b ws) (r : Reps K H M ds vs) (r2 : Reps K H M es ws) : Gives K (Itz K.K a b) (zipD ds es) H M where
  go := fun i H' M' f hi => by
    rw [zipD_length, r.length, r2.length] at hi
    exact ⟨vs, ws, vs[i]'(by omega), ws[i]'(by omega), sq H' M' f, sq2 H' M' f, by simp, by simp⟩
  stop := fun H' M' f => ⟨vs, ws, sq H' M' f, sq2 H' M' f, by rw [zipD_length, r.length, r2.length]; omega⟩
  yld := fun P' hP i H' M' x H2 f m y d e => by
    obtain ⟨T, z, z2, rfl, hT, e2, y1, y2⟩ := y
    obtain ⟨u, u2, h1, h2, rfl⟩ := zipD_get ds es i d e
    obtain ⟨v, hv, rv⟩ := r.get h1
    obtain ⟨v2, hv2, rv2⟩ := r2.get h2
    have q1 := y1 vs (sq _ M' f)
    have q2 := y2 ws (sq2 _ M' f)
    rw [hv] at q1
    rw [hv2] at q2
    cases q1
    cases q2
    exact pair_new m hT ((rv.hides hP).mono f) ((rv2.hides hP).mono f) e2
theorem gives_zipT {a b : Addr} {vs ws : List V} {ds es : List D} (sq : ∀ H' M', Fr H M H' M' → SqT K.K H' a vs) (sq2 : ∀ H' M', Fr H M H' M' → SqT K.K H' b ws) (r : Reps K H M ds vs) (r2 : Reps K H M es ws) : Gives K (RZ.ItzT K.K a b) (zipD ds es) H M where
  go := fun i H' M' f hi => by
    rw [zipD_length, r.length, r2.length] at hi
    exact ⟨vs, ws, vs[i]'(by omega), ws[i]'(by omega), sq H' M' f, sq2 H' M' f, by simp, by simp⟩
  stop := fun H' M' f => ⟨vs, ws, sq H' M' f, sq2 H' M' f, by rw [zipD_length, r.length, r2.length]; omega⟩
  yld := fun P' hP i H' M' x H2 f m y d e => by
    obtain ⟨T, z, z2, rfl, hT, e2, y1, y2⟩ := y
    obtain ⟨u, u2, h1, h2, rfl⟩ := zipD_get ds es i d e
    obtain ⟨v, hv, rv⟩ := r.get h1
    obtain ⟨v2, hv2, rv2⟩ := r2.get h2
    have q1 := y1 vs (sq _ M' f)
    have q2 := y2 ws (sq2 _ M' f)
    rw [hv] at q1
    rw [hv2] at q2
    cases q1
    cases q2
    exact pair_new m hT ((rv.hides hP).mono f) ((rv2.hides hP).mono f) e2
theorem lst_sq {a : Addr} {vs : List V} (h : H a = some (.lst vs) ∧ M a = none ∧ ¬ K.P a) : ∀ H' M', Fr H M H' M' → SqL K.K H' a vs := fun H' M' f => .of (f _ _ h.1 h.2.1).1
theorem rol_sq {a : Addr} {vs : List V} (h : TqR K H M a vs) : ∀ H' M', Fr H M H' M' → SqL K.K H' a vs := fun H' M' f => (h.mono f).sq
theorem tup_sq {a : Addr} {vs : List V} (h : TqT K H M a vs) : ∀ H' M', Fr H M H' M' → SqT K.K H' a vs := fun H' M' f => (h.mono f).sq
end
section
variable {K : Fg}
theorem refI_seq {ta : TE} {t : DE} (h : Ref K ta t) : RefI K (DLE.iAny K.K ta) (iSeq t) := fun σ H ρ M R R' s q l =>
  h σ H ρ M _ _ s q fun v H1 d M1 f1 r1 m1 q1 => by
    cases d with
    | tup xs =>
      obtain ⟨a, vs, rfl, h, r⟩ := r1
      exact .inr (.inl ⟨a, rfl, ⟨vs, h.sq⟩, l _ H1 xs M1 f1 m1 (gives_tup (tup_sq h) r) q1⟩)
    | lst xs =>
      obtain ⟨a, vs, rfl, h, r⟩ := r1
      exact .inl ⟨a, rfl, ⟨vs, .of h.1⟩, l _ H1 xs M1 f1 m1 (gives_list (lst_sq h) r) q1⟩
    | rol xs =>
      obtain ⟨a, vs, rfl, h, r⟩ := r1
      exact .inl ⟨a, rfl, ⟨vs, h.sq⟩, l _ H1 xs M1 f1 m1 (gives_list (rol_sq h) r) q1⟩
    | str z =>
      cases r1
      exact .inr (.inr ⟨z, rfl, l _ H1 _ M1 f1 m1 gives_str q1⟩)
    | _ => exact q1.elim
theorem refI_range {ta : TE} {t : DE} (h : Ref K ta t) : RefI K (iRng1 (tCons ta tNil)) (iRange t) := fun σ H ρ M R R' s q l =>
  h σ H ρ M _ _ s q fun v H1 d M1 f1 r1 m1 q1 => by
    cases d with
    | int n =>
      cases r1
      exact ⟨n, rfl, q1.1.1, q1.1.2, l _ H1 _ M1 f1 m1 gives_range q1.2⟩
    | _ => exact q1.elim
theorem refI_enum {ta : TE} {t : DE} (h : Ref K ta t) : RefI K (DLE.iEnumA K.K (tCons ta tNil)) (iEnum t) := fun σ H ρ M R R' s q l =>
  h σ H ρ M _ _ s q fun v H1 d M1 f1 r1 m1 q1 => by
    cases d with
    | tup xs =>
      obtain ⟨a, vs, rfl, h, r⟩ := r1
      exact ⟨a, vs, rfl, .inr ⟨h.sq, l _ H1 _ M1 f1 m1 (gives_enumT (tup_sq h) r) q1⟩⟩
    | lst xs =>
      obtain ⟨a, vs, rfl, h, r⟩ := r1
      exact ⟨a, vs, rfl, .inl ⟨.of h.1, l _ H1 _ M1 f1 m1 (gives_enumL (lst_sq h) r) q1⟩⟩
    | rol xs =>
      obtain ⟨a, vs, rfl, h, r⟩ := r1
      exact ⟨a, vs, rfl, .inl ⟨h.sq, l _ H1 _ M1 f1 m1 (gives_enumL (rol_sq h) r) q1⟩⟩
    | _ => exact q1.elim
theorem refI_zip {ta tb : TE} {t u : DE} (h : Ref K ta t) (h' : Ref K tb u) : RefI K (RZ.iZipA K.K (tCons ta (tCons tb tNil))) (iZip t u) := fun σ H ρ M R R' s q l =>
  h σ H ρ M _ _ s q fun v H1 d M1 f1 r1 m1 q1 => h' σ H1 ρ M1 _ _ (s.step f1 m1) q1 fun v2 H2 d2 M2 f2 r2 m2 q2 => by
    have r1 := r1.mono f2
    cases d with
    | tup xs =>
      cases d2 with
      | tup ys =>
        obtain ⟨a, vs, rfl, h, r⟩ := r1
        obtain ⟨b, ws, rfl, h', r'⟩ := r2
        exact ⟨a, b, vs, ws, rfl, .inr ⟨h.sq, h'.sq, l _ H2 _ M2 (f1.trans f2) m2 (gives_zipT (tup_sq h) (tup_sq h') r r') q2⟩⟩
      | _ => exact q2.elim
    | lst xs =>
      cases d2 with
      | lst ys =>
        obtain ⟨a, vs, rfl, h, r⟩ := r1
        obtain ⟨b, ws, rfl, h', r'⟩ := r2
        exact ⟨a, b, vs, ws, rfl, .inl ⟨.of h.1, .of h'.1, l _ H2 _ M2 (f1.trans f2) m2 (gives_zipL (lst_sq h) (lst_sq h') r r') q2⟩⟩
      | _ => exact q2.elim
    | _ => exact q2.elim

/-! ### targets -/
theorem refG_name (i : Nat) : RefG K (L2.gName i) (DL.gName i) := fun v d σ H ρ M Q Q' s r q l => l _ H _ M (Fr.refl H M) (s.set r) q
theorem refGs_nil : RefGs K L2.gNil DL.gNil := fun vs ds σ H ρ M Q Q' s r q l => by
  cases ds with
  | nil => exact ⟨r, l _ H _ M (Fr.refl H M) s q⟩
  | cons _ _ => exact q.elim
theorem refGs_cons {tg : TG} {tgs : TGs} {g : DG} {gs : DGs} (h1 : RefG K tg g) (h2 : RefGs K tgs gs) : RefGs K (L2.gCons tg tgs) (DL.gCons g gs) := fun vs ds σ H ρ M Q Q' s r q l => by
  cases ds with
  | nil => exact q.elim
  | cons d ds =>
    obtain ⟨v, rr, rfl, rv, rs⟩ := r
    exact ⟨v, rr, rfl, h1 v d σ H ρ M _ _ s rv q fun σ1 H1 ρ1 M1 f1 s1 q1 => h2 rr ds σ1 H1 ρ1 M1 _ _ s1 (rs.mono f1) q1 (l.later f1)⟩
theorem refG_tup {tgs : TGs} {gs : DGs} {n : Nat} (hn : ∀ ds ρ M Q, gs ds ρ M Q → ds.length = n) (h : RefGs K tgs gs) : RefG K (L2.gTup K.K n tgs) (DL.gTup gs) := fun v d σ H ρ M Q Q' s r q l => by
  cases d with
  | tup xs =>
    obtain ⟨a, vs, rfl, h1, rr⟩ := r
    exact ⟨a, vs, rfl, h1.sq, by rw [← rr.length]; exact hn _ _ _ _ q, h vs xs σ H ρ M _ _ s rr q l⟩
  | _ => exact q.elim
/-- so many targets -/
def Many (gs : DGs) (n : Nat) : Prop := ∀ ds ρ M Q, gs ds ρ M Q → ds.length = n
theorem many_nil : Many DL.gNil 0 := fun ds ρ M Q q => by
  cases ds with
  | nil => rfl
  | cons _ _ => exact q.elim
theorem refG_sub {to ti : TE} {t u : DE} (h1 : Ref K to t) (h2 : Ref K ti u) : RefG K (L2.gSub to ti rSetL) (DL.gSub t u) := fun v d σ H ρ M Q Q' s r q l =>
  h1 σ H ρ M _ _ s q fun o H1 od M1 f1 r1 m1 q1 => h2 σ H1 ρ M1 _ _ (s.step f1 m1) q1 fun i H2 di M2 f2 r2 m2 q2 => by
    have r1 := r1.mono f2
    cases od with
    | ref a =>
      cases di with
      | int k =>
        cases r1
        cases r2
        cases e : M2 a with
        | none => simp only [e] at q2
        | some mo =>
          cases mo with
          | lst xs =>
            simp only [e] at q2
            cases ej : DL.ixN xs.length k with
            | none => simp only [ej] at q2
            | some j =>
              simp only [ej] at q2
              obtain ⟨vs, hv, rv⟩ := m2.obj a _ e
              refine ⟨a, vs, k, j, rfl, rfl, hv, by rw [← rv.length]; exact ej, ?_⟩
              have r' := r.mono (f1.trans f2)
              have mm := mrep_write (vs := vs.set j v) (ws := vs) m2 e (rv.set j r')
              exact l _ _ _ _ ((f1.trans f2).trans (Fr.write e)) (s.step ((f1.trans f2).trans (Fr.write e)) mm) q2
          | _ => simp only [e] at q2
      | _ => exact q2.elim
    | _ => exact q2.elim
/-! ### statements -/
variable {tt : TT} {b c : DT} {ts us : TS} {t u : DS} {te : TE} {de : DE}
theorem refS_next : RefS K tNext sNext := fun σ H ρ M E E' s q l => l.nx σ H ρ M (Fr.refl H M) s q
theorem refS_break : RefS K tBreak sBreak := fun σ H ρ M E E' s q l => l.bk σ H ρ M (Fr.refl H M) s q
theorem refS_cont : RefS K tCont sCont := fun σ H ρ M E E' s q l => l.ct σ H ρ M (Fr.refl H M) s q
theorem refS_seq (h1 : RefS K ts t) (h2 : RefS K us u) : RefS K (tSeq ts us) (sSeq t u) := fun σ H ρ M E E' s q l =>
  h1 σ H ρ M _ _ s q ⟨fun σ1 H1 ρ1 M1 f1 s1 q1 => h2 σ1 H1 ρ1 M1 _ _ s1 q1 (l.later f1), l.rt, l.bk, l.ct⟩
theorem refS_expr (h : Ref K te de) : RefS K (tDrop te) (sExpr de) := fun σ H ρ M E E' s q l =>
  h σ H ρ M _ _ s q fun v H1 d M1 f1 r1 m1 q1 => l.nx σ H1 ρ M1 f1 (s.step f1 m1) q1
theorem refS_ret (h : Ref K te de) : RefS K (tRet te) (sRet de) := fun σ H ρ M E E' s q l => h σ H ρ M _ _ s q l.rt
theorem refS_retN : RefS K tRetN sRetN := fun σ H ρ M E E' s q l => l.rt .non H .non M (Fr.refl H M) rfl s.mem q
theorem refS_if (h : RefT K tt b) (h1 : RefS K ts t) (h2 : RefS K us u) : RefS K (tIfS tt ts us) (sIf b t u) := fun σ H ρ M E E' s q l =>
  h σ H ρ M _ _ s q fun k H1 M1 f1 m1 q1 => by
    cases k with
    | true =>
      rw [if_pos rfl] at q1 ⊢
      exact h1 σ H1 ρ M1 _ _ (s.step f1 m1) q1 (l.later f1)
    | false =>
      rw [if_neg Bool.false_ne_true] at q1 ⊢
      exact h2 σ H1 ρ M1 _ _ (s.step f1 m1) q1 (l.later f1)
theorem refS_asg {tg : TG} {g : DG} (h : Ref K te de) (hg : RefG K tg g) : RefS K (tAsg te tg) (sAsg de g) := fun σ H ρ M E E' s q l =>
  h σ H ρ M _ _ s q fun v H1 d M1 f1 r1 m1 q1 => hg v d σ H1 ρ M1 _ _ (s.step f1 m1) r1 q1 (l.nx.later f1)
theorem refS_aug {i : Nat} {r : TIp} {rd : DL.R2} (hr : RefR K r rd) (h : Ref K te de) : RefS K (tAug i te r) (sAug i de rd) := fun σ H ρ M E E' s q l => by
  unfold sAug at q
  split at q
  · rename_i d e
    obtain ⟨v, hv, rv⟩ := s.env i d e
    refine ⟨v, hv, h σ H ρ M _ _ s q fun v2 H1 d2 M1 f1 r1 m1 q1 => hr v v2 H1 M1 d d2 _ _ (rv.mono f1) r1 m1 q1 fun z H2 dz M2 f2 rz m2 q2 => ?_⟩
    exact l.nx _ H2 _ M2 (f1.trans f2) ((s.step (f1.trans f2) m2).set rz) q2
  · exact q.elim
theorem drop_cons {α : Type} {xs : List α} {i : Nat} (h : i < xs.length) : ∃ x, xs[i]? = some x ∧ xs.drop i = x :: xs.drop (i + 1) :=
  ⟨xs[i], by simp [h], List.drop_eq_getElem_cons h⟩
theorem refS_for {wi : TI} {ti : DI} {tg : TG} {g : DG} (hi : RefI K wi ti) (hg : RefG K tg g) (hb : RefS K ts t) : RefS K (tFor wi tg ts) (sFor ti g t) := fun σ H ρ M E E' s q l =>
  hi σ H ρ M _ _ s q fun J H1 ds M1 f1 m1 gv q1 => by
    refine ⟨fun i m σ' H' => ∃ ρ' M', Fr H1 M1 H' M' ∧ SRep K σ' H' ρ' M' ∧ i ≤ ds.length ∧ m = ds.length - i ∧ sLoop g t (ds.drop i) E ρ' M', ⟨ds.length, ρ, M1, Fr.refl _ _, s.step f1 m1, Nat.zero_le _, by simp, q1⟩, ?_⟩
    rintro i m σ' H' ⟨ρ', M', f, s', hi', rfl, qq⟩
    by_cases hlt : i < ds.length
    · obtain ⟨d, hd, hdr⟩ := drop_cons hlt
      rw [hdr] at qq
      refine .inr ⟨gv.go i H' M' f hlt, fun σ2 H2 => ∃ ρ2 M2, Fr H1 M1 H2 M2 ∧ SRep K σ2 H2 ρ2 M2 ∧ sLoop g t (ds.drop (i + 1)) E ρ2 M2, fun σ2 H2 ⟨ρ2, M2, f2, s2, q2⟩ => ⟨ds.length - (i + 1), by omega, ρ2, M2, f2, s2, hlt, rfl, q2⟩, fun x H2 y => ?_⟩
      obtain ⟨f2, m2, r2⟩ := gv.yld K.P (fun _ _ _ z => z) i H' M' x H2 f s'.mem y d hd
      refine hg x d σ' H2 ρ' M' _ _ (s'.step f2 m2) r2 qq fun σ3 H3 ρ3 M3 f3 s3 q3 => ?_
      have F3 : Fr H1 M1 H3 M3 := (f.trans f2).trans f3
      have nxt : LiftS K H3 M3 (sLoop g t (ds.drop (i + 1)) E) (fun σ2 H2 => ∃ ρ2 M2, Fr H1 M1 H2 M2 ∧ SRep K σ2 H2 ρ2 M2 ∧ sLoop g t (ds.drop (i + 1)) E ρ2 M2) :=
        fun σ4 H4 ρ4 M4 f4 s4 q4 => ⟨ρ4, M4, F3.trans f4, s4, q4⟩
      exact hb σ3 H3 ρ3 M3 _ _ s3 q3 ⟨nxt, l.rt.later (f1.trans F3), l.nx.later (f1.trans F3), nxt⟩
    · have e : i = ds.length := by omega
      subst e
      rw [List.drop_length] at qq
      exact .inl ⟨gv.stop H' M' f, l.nx σ' H' ρ' M' (f1.trans f) s' qq⟩
theorem refS_while (hc : RefT K tt b) (hb : RefS K ts t) : RefS K (tWhile tt ts) (sWhile b t) := fun σ H ρ M E E' s q l => by
  obtain ⟨n, q⟩ := q
  refine ⟨fun m σ' H' => ∃ ρ' M', Fr H M H' M' ∧ SRep K σ' H' ρ' M' ∧ sWhileN b t m E ρ' M', ⟨n, ρ, M, Fr.refl _ _, s, q⟩, ?_⟩
  rintro m σ' H' ⟨ρ', M', f, s', qq⟩
  cases m with
  | zero => exact qq.elim
  | succ m =>
    refine hc σ' H' ρ' M' _ _ s' qq fun k H1 M1 f1 m1 q1 => ?_
    cases k with
    | true =>
      rw [if_pos rfl] at q1 ⊢
      refine ⟨fun σ2 H2 => ∃ ρ2 M2, Fr H M H2 M2 ∧ SRep K σ2 H2 ρ2 M2 ∧ sWhileN b t m E ρ2 M2, fun σ2 H2 ⟨ρ2, M2, f2, s2, q2⟩ => ⟨m, Nat.lt_succ_self m, ρ2, M2, f2, s2, q2⟩, ?_⟩
      have nxt : LiftS K H1 M1 (sWhileN b t m E) (fun σ2 H2 => ∃ ρ2 M2, Fr H M H2 M2 ∧ SRep K σ2 H2 ρ2 M2 ∧ sWhileN b t m E ρ2 M2) :=
        fun σ4 H4 ρ4 M4 f4 s4 q4 => ⟨ρ4, M4, (f.trans f1).trans f4, s4, q4⟩
      exact hb σ' H1 ρ' M1 _ _ (s'.step f1 m1) q1 ⟨nxt, l.rt.later (f.trans f1), l.nx.later (f.trans f1), nxt⟩
    | false =>
      rw [if_neg Bool.false_ne_true] at q1 ⊢
      exact l.nx σ' H1 ρ' M1 (f.trans f1) (s'.step f1 m1) q1
/-! ### comprehensions -/
/-- a target that stores into the slots vs alone -/
def Own (vs : List Nat) (g : TG) : Prop := ∀ x σ H Q Q', (∀ σ2 H2, L2.wipe σ2 vs = L2.wipe σ vs → Q σ2 H2 → Q' σ2 H2) → g x σ H Q → g x σ H Q'
def Owns (vs : List Nat) (g : TGs) : Prop := ∀ xs σ H Q Q', (∀ σ2 H2, L2.wipe σ2 vs = L2.wipe σ vs → Q σ2 H2 → Q' σ2 H2) → g xs σ H Q → g xs σ H Q'
theorem wipe_set_not {σ : St} {i : Nat} {v : Option V} : ∀ {vs : List Nat}, i ∉ vs → L2.wipe (σ.set i v) vs = (L2.wipe σ vs).set i v
  | [], _ => rfl
  | w :: vs, h => by
    simp only [List.mem_cons, not_or] at h
    unfold L2.wipe
    rw [wipe_set_not h.2, List.set_comm _ _ h.1]
theorem wipe_set {σ : St} {i : Nat} {v : Option V} : ∀ {vs : List Nat}, i ∈ vs → L2.wipe (σ.set i v) vs = L2.wipe σ vs
  | w :: vs, h => by
    unfold L2.wipe
    by_cases c : i ∈ vs
    · rw [wipe_set c]
    · have e : i = w := (List.mem_cons.mp h).resolve_right c
      subst e
      rw [wipe_set_not c, List.set_set]
theorem wipe_wipe {σ : St} : ∀ {vs ws : List Nat}, (∀ i ∈ vs, i ∈ ws) → L2.wipe (L2.wipe σ vs) ws = L2.wipe σ ws
  | [], ws, _ => rfl
  | v :: vs, ws, h => by
    show L2.wipe ((L2.wipe σ vs).set v none) ws = L2.wipe σ ws
    rw [wipe_set (h v (by simp))]
    exact wipe_wipe fun i hi => h i (List.mem_cons_of_mem _ hi)
theorem own_name {vs : List Nat} {i : Nat} (h : i ∈ vs) : Own vs (L2.gName i) := fun x σ H Q Q' f q => f _ _ (wipe_set h) q
theorem owns_nil {vs : List Nat} : Owns vs L2.gNil := fun xs σ H Q Q' f q => ⟨q.1, f _ _ rfl q.2⟩
theorem owns_cons {vs : List Nat} {g : TG} {gs : TGs} (h1 : Own vs g) (h2 : Owns vs gs) : Owns vs (L2.gCons g gs) := fun xs σ H Q Q' f q => by
  obtain ⟨v, r, e, q⟩ := q
  exact ⟨v, r, e, h1 v σ H _ _ (fun σ2 H2 e2 q2 => h2 r σ2 H2 _ _ (fun σ3 H3 e3 q3 => f σ3 H3 (e3.trans e2) q3) q2) q⟩
theorem own_tup {K0 : PySem.W.Frag} {vs : List Nat} {n : Nat} {gs : TGs} (h : Owns vs gs) : Own vs (L2.gTup K0 n gs) := fun x σ H Q Q' f q => by
  obtain ⟨a, xs, e, h1, h2, q⟩ := q
  exact ⟨a, xs, e, h1, h2, h xs σ H _ _ f q⟩
theorem ref_comp {wi : TI} {ti : DI} {tg : TG} {g : DG} {vs : List Nat} (hi : RefI K wi ti) (hg : ∀ P, RefG ⟨K.K, P⟩ tg g) (ho : Own vs tg) (ht : ∀ P, RefT ⟨K.K, P⟩ tt b) (he : ∀ P, Ref ⟨K.K, P⟩ te de) : Ref K (tLc wi tg tt te vs) (dComp ti g b de vs) := fun σ H ρ M Q Q' s q l =>
  hi σ H ρ M _ _ s q fun J H1 ds M1 f1 m1 gv q1 D hD => by
    obtain ⟨hz, q1⟩ := q1
    have mD : M1 D = none := m1.free hD
    have hid := hide_new (K := K) hD
    have s1 : SRep (K.hide D) σ H1 ρ M1 → True := fun _ => trivial
    refine ⟨fun i m H' => ∃ M' acc accV, Fr H1 M1 H' M' ∧ MRep (K.hide D) H' M' ∧ H' D = some (.lst accV) ∧ M' D = none ∧ Reps (K.hide D) H' M' acc accV ∧ acc.length ≤ i ∧ i ≤ ds.length ∧ m = ds.length - i ∧ dCompL g b de (DL.wipe ρ vs) (ds.drop i) acc M' Q,
      ⟨ds.length, M1, [], [], Fr.new hD, m1.hide hD, upd_same, mD, rfl, Nat.zero_le _, Nat.zero_le _, by simp, q1⟩, ?_⟩
    rintro i m H' ⟨M', acc, accV, f, m', hD', mD', ra, ha, hi', rfl, qq⟩
    by_cases hlt : i < ds.length
    · obtain ⟨d, hd, hdr⟩ := drop_cons hlt
      rw [hdr] at qq
      refine .inr ⟨gv.go i H' M' f hlt, fun H2 => ∃ M2 acc2 accV2, Fr H1 M1 H2 M2 ∧ MRep (K.hide D) H2 M2 ∧ H2 D = some (.lst accV2) ∧ M2 D = none ∧ Reps (K.hide D) H2 M2 acc2 accV2 ∧ acc2.length ≤ i + 1 ∧ dCompL g b de (DL.wipe ρ vs) (ds.drop (i + 1)) acc2 M2 Q,
        fun H2 ⟨M2, acc2, accV2, z1, z2, z3, z4, z5, z6, z7⟩ => ⟨ds.length - (i + 1), by omega, M2, acc2, accV2, z1, z2, z3, z4, z5, z6, hlt, rfl, z7⟩, fun x H2 y => ?_⟩
      obtain ⟨f2, m2, r2⟩ := gv.yld (K.hide D).P hid i H' M' x H2 f m' y d hd
      have s2 : SRep (K.hide D) (L2.wipe σ vs) H2 (DL.wipe ρ vs) M' := by
        have z : SRep (K.hide D) σ H2 ρ M' := ⟨s.len, fun i d e => let ⟨v, q, r⟩ := s.env i d e; ⟨v, q, ((r.mono f1).hides hid).mono (f.trans f2)⟩, m2⟩
        exact z.wipe vs
      refine ho x _ H2 _ _ (fun σ3 H3 e3 q3 => ⟨by rw [e3]; exact wipe_wipe fun _ h => h, q3⟩) (hg _ x d _ H2 _ M' _ _ s2 r2 qq fun σ3 H3 ρ3 M3 f3 s3 q3 => ?_)
      refine ht _ σ3 H3 ρ3 M3 _ _ s3 q3 fun k H4 M4 f4 m4 q4 => ?_
      have F4 : Fr H1 M1 H4 M4 := ((f.trans f2).trans f3).trans f4
      have F4' : Fr H' M' H4 M4 := (f2.trans f3).trans f4
      cases k with
      | true =>
        rw [if_pos rfl] at q4 ⊢
        refine he _ σ3 H4 ρ3 M4 _ _ (s3.step f4 m4) q4 fun v H5 dv M5 f5 r5 m5 q5 => ?_
        have F5 : Fr H1 M1 H5 M5 := F4.trans f5
        have F5' : Fr H' M' H5 M5 := F4'.trans f5
        obtain ⟨hD5, mD5⟩ := F5' D _ hD' mD'
        refine ⟨accV, hD5, szLt (by rw [← ra.length]; omega), M5, acc ++ [dv], accV ++ [v], fun a o e w => ?_, MRep.priv (K := K.hide D) m5 (.inr rfl), upd_same, mD5, Reps.priv (K := K.hide D) (.inr rfl) ((ra.mono F5').snoc r5), by rw [List.length_append]; show acc.length + 1 ≤ i + 1; omega, q5⟩
        have ne := ne_of_none e hD
        obtain ⟨z1, z2⟩ := F5 a o e w
        exact ⟨by rw [upd_ne ne]; exact z1, z2⟩
      | false =>
        rw [if_neg Bool.false_ne_true] at q4 ⊢
        obtain ⟨hD4, mD4⟩ := F4' D _ hD' mD'
        exact ⟨M4, acc, accV, F4, m4, hD4, mD4, ra.mono F4', by omega, q4⟩
    · have e : i = ds.length := by omega
      subst e
      rw [List.drop_length] at qq
      refine .inl ⟨gv.stop H' M' f, ?_⟩
      exact l _ H' (.lst acc) M' (f1.trans f) ⟨D, accV, rfl, ⟨hD', mD', m1.nprv hD⟩, ra.bare⟩ m'.bare qq
end
end DL
/-! DLX: the rules by syntax. -/
namespace DL
open PySem PySem.Spec PyProof.Rows L2

section
variable {X : Cx} {pos p : Pos} {a b c e o : Expr} {es : List Expr} {ta tb tc te : TE} {t u w : DE} {tA : TA} {dA' : DA} {tt tu : TT} {k : Nat}
/-! ### names, constants, displays -/
theorem re_v (i : Nat) {x : Str} (hN : X.N[i]? = some x := by rfl) (hv : Vis X.env.scope x := by first | exact Or.inl rfl | exact Or.inr (Or.inl rfl) | exact Or.inr (Or.inr rfl)) (hd : (x == ("__debug__" : Str)) = false := by decide)
    (hcd : (x == ("__classdict__" : Str)) = false := by decide) : RE X (.Name x pos) (tVar i) (dV i) := ⟨pv i hN hv hd hcd, fun P => ref_var i⟩
theorem re_int {i : Int} {j : Nat} : RE X (.Constant (.int i) j pos) (tC (.int i)) (dC (.int i)) := ⟨pe_int, fun P => ref_c fun _ _ => rfl⟩
theorem re_str {x : Str} {j : Nat} : RE X (.Constant (.str x) j pos) (tC (.str x)) (dC (.str x)) := ⟨pe_str, fun P => ref_c fun _ _ => rfl⟩
theorem re_bl {x : Bool} {j : Nat} : RE X (.Constant (.bool x) j pos) (tC (.bl x)) (dC (.bl x)) := ⟨pe_bl, fun P => ref_c fun _ _ => rfl⟩
theorem re_non {j : Nat} : RE X (.Constant .none j pos) (tC .non) (dC .non) := ⟨pe_non, fun P => ref_c fun _ _ => rfl⟩
/-- a module's constant -/
def Glob (K : PySem.W.Frag) (mg : Str → Option Value) (x : Str) (v : V) (d : D) : Prop := ∃ u, mg x = some u ∧ RelV v u ∧ ∀ P H M, Rep ⟨K, P⟩ H M d v
theorem re_glob {x : Str} {v : V} {d : D} (hg : Gl X x) (h : Glob X.K X.mg x v d) (hd : (x == ("__debug__" : Str)) = false := by decide) : RE X (.Name x pos) (tC v) (dC d) := by
  obtain ⟨u, h1, h2, h3⟩ := h
  exact ⟨pe_glob hg h1 h2 hd, fun P => ref_c (h3 P)⟩
theorem ra_nil : RA X [] tNil dA0 := ⟨pa_nil, fun P => refA_nil⟩
theorem ra_cons (h : RE X e te t) (h2 : RA X es tA dA') (hs : starEach (e :: es) X.env = (false, eval e X.env) :: starEach es X.env := by rfl) : RA X (e :: es) (tCons te tA) (dA t dA') := ⟨pa_cons h.pe h2.pa hs, fun P => refA_cons (h.rf P) (h2.rf P)⟩
theorem re_tup {x1 : Nat} (h : RA X es tA dA') (hn : es.length ≤ SZ := by decide) : RE X (.Tuple es x1 pos) (tTup tA) (dTup dA') := ⟨pe_tup h.pa, fun P => ref_tup hn (h.rf P)⟩
theorem re_lst (h : RA X es tA dA') (hn : es.length ≤ SZ := by decide) : RE X (.List es pos) (tLst tA) (dLst dA') := ⟨pe_lst h.pa, fun P => ref_lst hn (h.rf P)⟩
theorem re_new (h : RA X es tA dA') (hn : es.length ≤ SZ := by decide) : RE X (.List es pos) (tLst tA) (dNew dA') := ⟨pe_lst h.pa, fun P => ref_new hn (h.rf P)⟩
/-! ### operators -/
theorem re_add (K0 : PySem.W.Frag) (h1 : RE X a ta t) (h2 : RE X b tb u) (hK : X.K = K0 := by rfl) : RE X (.BinOp a .Add b pos) (tOp (rAddAll K0) ta tb) (dOp oAdd t u) := by
  subst hK
  exact ⟨pe_op op_addAll h1.pe h2.pe, fun P => ref_op rf_add (h1.rf P) (h2.rf P)⟩
theorem re_sub (h1 : RE X a ta t) (h2 : RE X b tb u) : RE X (.BinOp a .Sub b pos) (tOp (rI0 fun i j => .int (i - j)) ta tb) (dOp oSub t u) := ⟨pe_op op_sub h1.pe h2.pe, fun P => ref_op rf_sub (h1.rf P) (h2.rf P)⟩
theorem re_mul (h1 : RE X a ta t) (h2 : RE X b tb u) : RE X (.BinOp a .Mult b pos) (tOp rMulAll ta tb) (dOp oMul t u) := ⟨pe_op op_mulAll h1.pe h2.pe, fun P => ref_op rf_mul (h1.rf P) (h2.rf P)⟩
theorem re_rep (h1 : RE X a ta t) (h2 : RE X b tb u) : RE X (.BinOp a .Mult b pos) (tOp rRepS ta tb) (dOp oRep t u) := ⟨pe_op op_repS h1.pe h2.pe, fun P => ref_op rf_rep (h1.rf P) (h2.rf P)⟩
theorem re_fdiv (h1 : RE X a ta t) (h2 : RE X b tb u) : RE X (.BinOp a .FloorDiv b pos) (tOp (rI CDivW fun i j => .int (i / j)) ta tb) (dOp oFdiv t u) := ⟨pe_op op_fdivW h1.pe h2.pe, fun P => ref_op rf_fdiv (h1.rf P) (h2.rf P)⟩
theorem re_mod (h1 : RE X a ta t) (h2 : RE X b tb u) : RE X (.BinOp a .Mod b pos) (tOp (rI (fun _ j => 0 < j) fun i j => .int (i % j)) ta tb) (dOp oMod t u) := ⟨pe_op op_mod h1.pe h2.pe, fun P => ref_op rf_mod (h1.rf P) (h2.rf P)⟩
theorem re_pow (h1 : RE X a ta t) (h2 : RE X b tb u) : RE X (.BinOp a .Pow b pos) (tOp (rI CPow fun i j => .int (i ^ j.toNat)) ta tb) (dOp oPow t u) := ⟨pe_op op_pow h1.pe h2.pe, fun P => ref_op rf_pow (h1.rf P) (h2.rf P)⟩
theorem re_neg (h1 : RE X a ta t) : RE X (.UnaryOp .USub a pos) (tUn (rU fun i => .int (-i)) ta) (dUn oNeg t) := ⟨pe_un un_neg h1.pe, fun P => ref_un rf_neg (h1.rf P)⟩
theorem re_ix (K0 : PySem.W.Frag) (h1 : RE X a ta t) (h2 : RE X b tb u) (hs : PlainIx b := by exact fun _ _ => rfl) (hK : X.K = K0 := by rfl) : RE X (.Subscript a b pos) (tOp (rIx K0) ta tb) (dOp oIx t u) := by
  subst hK
  exact ⟨pe_ix ix_seq h1.pe h2.pe hs, fun P => ref_op rf_ix (h1.rf P) (h2.rf P)⟩
structure RO (X : Cx) (e : Option Expr) (to : TO) (t : DO) : Prop where
  po : PO X e to
  rf : ∀ P, RefO ⟨X.K, P⟩ to t
theorem ro_none : RO X none tNoPart dNoPart := ⟨po_none, fun P => refO_none⟩
theorem ro_some (h : RE X e te t) : RO X (some e) (tPart te) (dPart t) := ⟨po_some h.pe, fun P => refO_some (h.rf P)⟩
theorem re_cut {lo hi : Option Expr} {tl th : TO} {dl dh : DO} {p2 : Pos} (K0 : PySem.W.Frag) (h : RE X e te t) (h1 : RO X lo tl dl) (h2 : RO X hi th dh) (hK : X.K = K0 := by rfl) : RE X (.Subscript e (.Slice lo hi none p2) pos) (tSl (rCutAll K0) te tl th) (dCut t dl dh) := by
  subst hK
  exact ⟨pe_slice sl_all h.pe h1.po h2.po, fun P => ref_cut (h.rf P) (h1.rf P) (h2.rf P)⟩
/-! ### comparisons -/
structure CM (X : Cx) (op : CmpOp) (r : L2.R2) (rd : DL.R2) : Prop where
  op : OpR X (compareOp op) r
  rf : ∀ P, RefR ⟨X.K, P⟩ r rd
theorem c_eq (K0 : PySem.W.Frag) (hr : Room k X.A) (hK : X.K = K0 := by rfl) : CM X .Eq (rEqAll K0) oEq := by
  subst hK
  exact ⟨op_eqAll hr.units, fun P => rf_eq⟩
theorem c_ne (K0 : PySem.W.Frag) (hr : Room k X.A) (hK : X.K = K0 := by rfl) : CM X .NotEq (rNeAll K0) oNe := by
  subst hK
  exact ⟨op_neAll hr.units, fun P => rf_ne⟩
theorem c_lt : CM X .Lt (rI0 fun i j => .bl (decide (i < j))) oLt := ⟨op_lt, fun P => rf_lt⟩
theorem c_le : CM X .LtE (rI0 fun i j => .bl (decide (i ≤ j))) oLe := ⟨op_le, fun P => rf_le⟩
theorem c_gt : CM X .Gt (rI0 fun i j => .bl (decide (j < i))) oGt := ⟨op_gt, fun P => rf_gt⟩
theorem c_ge : CM X .GtE (rI0 fun i j => .bl (decide (j ≤ i))) oGe := ⟨op_ge, fun P => rf_ge⟩
theorem c_in (K0 : PySem.W.Frag) (hK : X.K = K0 := by rfl) : CM X .In (rInAll K0) oIn := by
  subst hK
  exact ⟨op_inAll, fun P => rf_in⟩
theorem c_notIn (K0 : PySem.W.Frag) (hK : X.K = K0 := by rfl) : CM X .NotIn (rNotInAll K0) oNotIn := by
  subst hK
  exact ⟨op_notInAll, fun P => rf_notIn⟩
theorem re_cmp {op : CmpOp} {r : L2.R2} {rd : DL.R2} (c : CM X op r rd) (h1 : RE X a ta t) (h2 : RE X b tb u) (hm : behindInMarks op b = false := by first | exact nomark _ | rfl) : RE X (.Compare a [op] [b] pos) (tOp r ta tb) (dOp rd t u) :=
  ⟨pe_cmpR c.op h1.pe h2.pe hm, fun P => ref_op (c.rf P) (h1.rf P) (h2.rf P)⟩
theorem rt_cmp {op : CmpOp} {r : L2.R2} {rd : DL.R2} (c : CM X op r rd) (h1 : RE X a ta t) (h2 : RE X b tb u) (hm : behindInMarks op b = false := by first | exact nomark _ | rfl) : RT X (.Compare a [op] [b] pos) (tTest (tOp r ta tb)) (dTest (dOp rd t u)) :=
  ⟨pt_cmpR c.op h1.pe h2.pe hm, fun P => refT_test (ref_op (c.rf P) (h1.rf P) (h2.rf P))⟩
theorem re_chain {op op' : CmpOp} {r r' : L2.R2} {rd rd' : DL.R2} (c1 : CM X op r rd) (c2 : CM X op' r' rd') (h1 : RE X a ta t) (h2 : RE X b tb u) (h3 : RE X c tc w) (hm : lastMarks [op, op'] [b, c] = false := by with_unfolding_all rfl) :
    RE X (.Compare a [op, op'] [b, c] pos) (tChain r r' ta tb tc) (dChain rd rd' t u w) := ⟨pe_chain c1.op c2.op h1.pe h2.pe h3.pe hm, fun P => ref_chain (c1.rf P) (c2.rf P) (h1.rf P) (h2.rf P) (h3.rf P)⟩
theorem rt_chain {op op' : CmpOp} {r r' : L2.R2} {rd rd' : DL.R2} (c1 : CM X op r rd) (c2 : CM X op' r' rd') (h1 : RE X a ta t) (h2 : RE X b tb u) (h3 : RE X c tc w) (hm : lastMarks [op, op'] [b, c] = false := by with_unfolding_all rfl) :
    RT X (.Compare a [op, op'] [b, c] pos) (tTest (tChain r r' ta tb tc)) (dTest (dChain rd rd' t u w)) := ⟨pt_chain c1.op c2.op h1.pe h2.pe h3.pe hm, fun P => refT_test (ref_chain (c1.rf P) (c2.rf P) (h1.rf P) (h2.rf P) (h3.rf P))⟩
theorem re_isN {j : Nat} {p' : Pos} (h1 : RE X a ta t) : RE X (.Compare a [.Is] [.Constant .none j p'] pos) (tIsN ta) (dUn oIsN t) := ⟨pe_cmp (pc_isN h1.pe), fun P => ref_isN (h1.rf P)⟩
theorem re_notN {j : Nat} {p' : Pos} (h1 : RE X a ta t) : RE X (.Compare a [.IsNot] [.Constant .none j p'] pos) (tNotN ta) (dUn oNotN t) := ⟨pe_cmp (pc_notN h1.pe), fun P => ref_notN (h1.rf P)⟩
theorem rt_isN {j : Nat} {p' : Pos} (h1 : RE X a ta t) : RT X (.Compare a [.Is] [.Constant .none j p'] pos) (tB (tIsN ta)) (dTest (dUn oIsN t)) := ⟨pt_cmp (pc_isN h1.pe), fun P => refT_val (ref_isN (h1.rf P))⟩
theorem rt_notN {j : Nat} {p' : Pos} (h1 : RE X a ta t) : RT X (.Compare a [.IsNot] [.Constant .none j p'] pos) (tB (tNotN ta)) (dTest (dUn oNotN t)) := ⟨pt_cmp (pc_notN h1.pe), fun P => refT_val (ref_notN (h1.rf P))⟩
/-! ### tests -/
variable {d1 d2 : DT} {rest : List Expr}
theorem rt_val (h : RE X e te t) (he : ∀ whole, isTrue e X.env whole = (do let v ← whole; standAt e.pos; holding [v] (truthy v)) := by intro _; rfl) : RT X e (tB te) (dTest t) := ⟨pt_val h.pe he, fun P => refT_val (h.rf P)⟩
theorem rw_and1 (h : RT X a tt d1) : RW X (.BoolOp .And [a] pos) tt d1 := ⟨pw_and1 h.pt, h.rf⟩
theorem rw_or1 (h : RT X a tt d1) : RW X (.BoolOp .Or [a] pos) tt d1 := ⟨pw_or1 h.pt, h.rf⟩
theorem rw_and (h1 : RT X a tt d1) (h2 : RW X (.BoolOp .And (b :: rest) pos) tu d2) : RW X (.BoolOp .And (a :: b :: rest) pos) (tAnd tt tu) (dAnd d1 d2) := ⟨pw_and h1.pt h2.pw, fun P => refT_and (h1.rf P) (h2.rf P)⟩
theorem rw_or (h1 : RT X a tt d1) (h2 : RW X (.BoolOp .Or (b :: rest) pos) tu d2) : RW X (.BoolOp .Or (a :: b :: rest) pos) (tOr tt tu) (dOr d1 d2) := ⟨pw_or h1.pt h2.pw, fun P => refT_or (h1.rf P) (h2.rf P)⟩
theorem rt_w (h : RW X e tt d1) : RT X e tt d1 := ⟨h.pw.pt, h.rf⟩
theorem rt_not (h : RT X a tt d1) : RT X (.UnaryOp .Not a pos) (tNot tt) (dNot d1) := ⟨pt_not h.pt, fun P => refT_not (h.rf P)⟩
theorem re_one {op : BoolOp} (h : RE X a ta t) : RE X (.BoolOp op [a] pos) ta t := ⟨pe_one h.pe, h.rf⟩
theorem re_and (h1 : RE X a ta t) (h2 : RE X (.BoolOp .And (b :: rest) pos) tb u) : RE X (.BoolOp .And (a :: b :: rest) pos) (tAndV ta tb) (dAndV t u) := ⟨pe_and h1.pe h2.pe, fun P => ref_andV (h1.rf P) (h2.rf P)⟩
theorem re_or (h1 : RE X a ta t) (h2 : RE X (.BoolOp .Or (b :: rest) pos) tb u) : RE X (.BoolOp .Or (a :: b :: rest) pos) (tOrV ta tb) (dOrV t u) := ⟨pe_or h1.pe h2.pe, fun P => ref_orV (h1.rf P) (h2.rf P)⟩
theorem re_not (h : RE X a ta t) : RE X (.UnaryOp .Not a pos) (tNotV ta) (dNotV t) := ⟨pe_not h.pe, fun P => ref_notV (h.rf P)⟩
theorem re_ifE (h : RT X c tt d1) (h1 : RE X a ta t) (h2 : RE X b tb u) : RE X (.IfExp c a b pos) (tIf tt ta tb) (dIfE d1 t u) := ⟨pe_ifExp h.pt h1.pe h2.pe, fun P => ref_ifE (h.rf P) (h1.rf P) (h2.rf P)⟩
/-! ### built-ins -/
structure B1 (X : Cx) (f : Value) (r : List V → Hp → VK → Prop) (rd : R1) : Prop where
  op : CallR X f r
  rf : ∀ P, RefR1 ⟨X.K, P⟩ r rd
theorem re_b1 {x : Str} {id : String} {r : List V → Hp → VK → Prop} {rd : R1} (c : B1 X (.builtin id) r rd) (hv : bootBuiltins x = some (.builtin id)) (hg : Gl X x) (hm : X.mg x = none) (h : RE X e te t) (hn : x ≠ "__name__" := by decide) (hdb : (x == ("__debug__" : Str)) = false := by decide)
    (he : starEach [e] X.env = (false, eval e X.env) :: starEach [] X.env := by rfl) (hpl : (backTo pos (starEach [] X.env)).any (·.1) = false := by rfl) : RE X (.Call (.Name x p) [e] [] pos) (tCB r (tCons te tNil)) (dUn rd t) :=
  ⟨pe_callB c.op hg hm hv (pa_cons h.pe pa_nil he) hn hdb he hpl, fun P => ref_cb1 (c.rf P) (h.rf P)⟩
theorem re_bT {x : Str} {T : String} {r : List V → Hp → VK → Prop} {rd : R1} (c : B1 X (.type T) r rd) (hv : bootBuiltins x = some (.type T)) (hg : Gl X x) (hm : X.mg x = none) (h : RE X e te t) (hn : x ≠ "__name__" := by decide) (hdb : (x == ("__debug__" : Str)) = false := by decide)
    (he : starEach [e] X.env = (false, eval e X.env) :: starEach [] X.env := by rfl) (hpl : (backTo pos (starEach [] X.env)).any (·.1) = false := by rfl) : RE X (.Call (.Name x p) [e] [] pos) (tCB r (tCons te tNil)) (dUn rd t) :=
  ⟨pe_callTy c.op hg hm hv (pa_cons h.pe pa_nil he) hn hdb he hpl, fun P => ref_cb1 (c.rf P) (h.rf P)⟩
theorem b_len (K0 : PySem.W.Frag) (hK : X.K = K0 := by rfl) : B1 X (.builtin "len") (rLenAll K0) oLen := by
  subst hK
  exact ⟨call_len, fun P => rf_len⟩
abbrev rAbs1 : List V → Hp → VK → Prop := fun xs H Q => ∃ i, xs = [.int i] ∧ Q (.int (if i < 0 then -i else i)) H
abbrev rInt1 : List V → Hp → VK → Prop := fun xs H Q => (∃ i, xs = [.int i] ∧ Q (.int i) H) ∨ ∃ k, xs = [.bl k] ∧ Q (.int (if k then 1 else 0)) H
abbrev rStr1 : List V → Hp → VK → Prop := fun xs H Q => ∃ i, xs = [.int i] ∧ i.natAbs.log2 < 1920 ∧ Q (.str (toString i)) H
abbrev rTuple1 (K : PySem.W.Frag) : List V → Hp → VK → Prop := fun xs H Q => ∃ p ys, xs = [.ref p] ∧ ((SqL K H p ys ∧ ∀ l, H l = none → Q (.ref l) (upd H l (.tup ys))) ∨ (SqT K H p ys ∧ Q (.ref p) H))
abbrev rList1 (K : PySem.W.Frag) : List V → Hp → VK → Prop := fun xs H Q => ∃ p ys, xs = [.ref p] ∧ (SqL K H p ys ∨ SqT K H p ys) ∧ ∀ l, H l = none → Q (.ref l) (upd H l (.lst ys))
theorem b_abs : B1 X (.builtin "abs") rAbs1 oAbs := ⟨call_abs, fun P => rf_abs⟩
theorem b_int : B1 X (.type "int") rInt1 oInt := ⟨call_int1, fun P => rf_int⟩
theorem b_str : B1 X (.type "str") rStr1 oStr := ⟨call_str_int, fun P => rf_str⟩
theorem b_tuple (K0 : PySem.W.Frag) (hK : X.K = K0 := by rfl) : B1 X (.type "tuple") (rTuple1 K0) oTuple := by
  subst hK
  exact ⟨call_tuple_of, fun P => rf_tuple⟩
theorem b_list (K0 : PySem.W.Frag) (hK : X.K = K0 := by rfl) : B1 X (.type "list") (rList1 K0) oList := by
  subst hK
  exact ⟨call_list_of, fun P => rf_list⟩
theorem b_all (K0 : PySem.W.Frag) (hc : X.calm = true) (hK : X.K = K0 := by rfl) : B1 X (.builtin "all") (rAll K0) oAll := by
  subst hK
  exact ⟨cr_all hc, fun P => rf_all⟩
theorem b_any (K0 : PySem.W.Frag) (hc : X.calm = true) (hK : X.K = K0 := by rfl) : B1 X (.builtin "any") (rAny K0) oAny := by
  subst hK
  exact ⟨cr_any hc, fun P => rf_any⟩
theorem b_sum (K0 : PySem.W.Frag) (hc : X.calm = true) (hK : X.K = K0 := by rfl) : B1 X (.builtin "sum") (rSum K0) oSum := by
  subst hK
  exact ⟨cr_sum hc, fun P => rf_sum⟩
theorem re_isi {T : String} {y : Str} {p2 : Pos} (K0 : PySem.W.Frag) (hT : kitT T = true) (hv : bootBuiltins y = some (.type T)) (hg : Gl X "isinstance") (hm : X.mg "isinstance" = none) (hg2 : Gl X y) (hm2 : X.mg y = none) (h : RE X e te t) (hny : y ≠ "__name__" := by decide) (hdy : (y == ("__debug__" : Str)) = false := by decide)
    (he : starEach [e, .Name y p2] X.env = (false, eval e X.env) :: starEach [.Name y p2] X.env := by rfl) (he2 : starEach [.Name y p2] X.env = (false, eval (.Name y p2) X.env) :: starEach [] X.env := by rfl) (hpl : (backTo pos (starEach [.Name y p2] X.env)).any (·.1) = false := by rfl) (hK : X.K = K0 := by rfl) :
    RE X (.Call (.Name "isinstance" p) [e, .Name y p2] [] pos) (tCB (rIsi K0) (tCons te (tCons (tC (.ty T)) tNil))) (dUn (oIsi T) t) := by
  subst hK
  exact ⟨pe_callB call_isi hg hm boot_isinstance (pa_cons h.pe (pa_cons (pe_bltn hg2 hm2 hv rfl hny hdy) pa_nil he2) he) (by decide) (by decide) he hpl, fun P => rf_isi hT (h.rf P)⟩
/-! ### methods of lists -/
theorem tyV_list {K : Fg} {H : Hp} {M : Mem} {d : D} {x : V} (m : MRep K H M) (r : Rep K H M d x) (h : (asL M d).isSome = true) : tyV K.K "list" x H := by
  cases e : asL M d with
  | none => rw [e] at h; cases h
  | some ys =>
    obtain ⟨a, vs, rfl, q, _⟩ := asL_rep m r e
    exact .inl ⟨rfl, vs, q⟩
theorem ref_meth {K : Fg} {r : V → List V → Hp → VK → Prop} {rd : DL.R2} {to : TE} {do' : DE} (hr : ∀ x y H M dx dy Q Q', Rep K H M dx x → Rep K H M dy y → MRep K H M → rd dx dy M Q → Lift K H M Q Q' → r x [y] H Q') (h1 : Ref K to do') (h2 : Ref K te t) :
    Ref K (tBM K.K "list" r to (tCons te tNil)) (dMeth rd do' t) := fun σ H ρ M Q Q' s q l =>
  h1 σ H ρ M _ _ s q fun v H1 d M1 f1 r1 m1 q1 => ⟨tyV_list m1 r1 q1.1, h2 σ H1 ρ M1 _ _ (s.step f1 m1) q1.2 fun v2 H2 d2 M2 f2 r2 m2 q2 =>
    hr v v2 H2 M2 d d2 _ _ (r1.mono f2) r2 m2 q2 (l.later (f1.trans f2))⟩
theorem ref_meth0 {K : Fg} {r : V → List V → Hp → VK → Prop} {rd : R1} {to : TE} {do' : DE} (hr : ∀ x H M dx Q Q', Rep K H M dx x → MRep K H M → rd dx M Q → Lift K H M Q Q' → r x [] H Q') (h1 : Ref K to do') : Ref K (tBM0 K.K "list" r to) (dMeth0 rd do') := fun σ H ρ M Q Q' s q l =>
  h1 σ H ρ M _ _ s q fun v H1 d M1 f1 r1 m1 q1 => ⟨tyV_list m1 r1 q1.1, hr v H1 M1 d _ _ r1 m1 q1.2 (l.later f1)⟩
theorem mt_lst {K : Fg} {H : Hp} {M : Mem} {a : Addr} {xs : List D} (m : MRep K H M) (e : M a = some (.lst xs)) : ∃ vs, H a = some (.lst vs) ∧ Reps K H M xs vs := m.obj a _ e
theorem rm_append {K : Fg} : ∀ x y H M dx dy Q Q', Rep K H M dx x → Rep K H M dy y → MRep K H M → mAppend dx dy M Q → Lift K H M Q Q' → rAppend x [y] H Q' := fun x y H M dx dy Q Q' rx ry m q l => by
  cases dx with
  | ref a =>
    cases rx
    simp only [mAppend] at q
    cases e : M a with
    | none => simp only [e] at q
    | some mo =>
      cases mo with
      | lst xs =>
        simp only [e] at q
        obtain ⟨vs, hv, rv⟩ := mt_lst m e
        refine ⟨a, vs, y, rfl, rfl, hv, szLt (by rw [← rv.length]; exact q.1), ?_⟩
        exact l _ _ .non _ (Fr.write e) rfl (mrep_write (ws := vs) m e (rv.snoc ry)) q.2
      | _ => simp only [e] at q
  | _ => exact q.elim
theorem rm_pop {K : Fg} : ∀ x H M dx Q Q', Rep K H M dx x → MRep K H M → mPop dx M Q → Lift K H M Q Q' → rPop x [] H Q' := fun x H M dx Q Q' rx m q l => by
  cases dx with
  | ref a =>
    cases rx
    simp only [mPop] at q
    cases e : M a with
    | none => simp only [e] at q
    | some mo =>
      cases mo with
      | lst xs =>
        simp only [e] at q
        cases e2 : xs[xs.length - 1]? with
        | none => simp only [e2] at q
        | some d =>
          simp only [e2] at q
          obtain ⟨vs, hv, rv⟩ := mt_lst m e
          obtain ⟨y, hy, ry⟩ := rv.get e2
          refine ⟨a, vs, y, rfl, rfl, hv, by rw [← rv.length]; exact hy, ?_⟩
          exact l _ _ d _ (Fr.write e) (ry.mono (Fr.write e)) (mrep_write (ws := vs) m e rv.dropLast) q
      | _ => simp only [e] at q
  | _ => exact q.elim
theorem rm_popAt {K : Fg} : ∀ x y H M dx dy Q Q', Rep K H M dx x → Rep K H M dy y → MRep K H M → mPopAt dx dy M Q → Lift K H M Q Q' → rPopAt x [y] H Q' := fun x y H M dx dy Q Q' rx ry m q l => by
  cases dx with
  | ref a =>
    cases dy with
    | int i =>
      cases rx
      cases ry
      simp only [mPopAt] at q
      cases e : M a with
      | none => simp only [e] at q
      | some mo =>
        cases mo with
        | lst xs =>
          simp only [e] at q
          cases e1 : DL.ixN xs.length i with
          | none => simp only [e1] at q; exact q.2.elim
          | some k =>
            simp only [e1] at q
            cases e2 : xs[k]? with
            | none => simp only [e2] at q; exact q.2.elim
            | some d =>
              simp only [e2] at q
              obtain ⟨vs, hv, rv⟩ := mt_lst m e
              obtain ⟨y, hy, ry⟩ := rv.get e2
              refine ⟨a, vs, i, k, y, rfl, rfl, hv, q.1.1, q.1.2, ?_, hy, ?_⟩
              · rw [← rv.length]
                exact (L2.ixN_seq e1).1
              · exact l _ _ d _ (Fr.write e) (ry.mono (Fr.write e)) (mrep_write (ws := vs) m e (rv.eraseIdx k)) q.2
        | _ => simp only [e] at q
    | _ => exact q.elim
  | _ => exact q.elim
theorem re_append {to : TE} {do' : DE} {apos cpos : Pos} (K0 : PySem.W.Frag) (ho : RE X o to do') (h : RE X e te t) (hbase : attributeBase o "append" X.env (eval o X.env) = eval o X.env := by rfl)
    (hfew : ((backTo cpos (starEach [e] X.env)).all (fun x => !x.1) && (backToKw cpos (keywordEach [] X.env)).all (fun x => x.1.isSome)
      && decide ([e].length + ([] : List Keyword).length + (if ([] : List Keyword).isEmpty then 0 else 1) < 30)) = true := by rfl)
    (hline : (apos.endLine == cpos.line) = true := by rfl) (hs : starEach [e] X.env = (false, eval e X.env) :: starEach [] X.env := by rfl) (hplain : (backTo cpos (starEach [] X.env)).any (·.1) = false := by rfl) (hK : X.K = K0 := by rfl) :
    RE X (.Call (.Attribute o "append" apos) [e] [] cpos) (tBM K0 "list" rAppend to (tCons te tNil)) (dMeth mAppend do' t) := by
  subst hK
  exact ⟨pe_bm PySem.F.plainAttrs_list PySem.F.slot_list_append PySem.F.type_list_append mt_append ho.pe (pa_cons h.pe pa_nil hs) hbase hfew hline hs hplain, fun P => ref_meth (K := ⟨X.K, P⟩) rm_append (ho.rf P) (h.rf P)⟩
theorem re_popAt {to : TE} {do' : DE} {apos cpos : Pos} (K0 : PySem.W.Frag) (ho : RE X o to do') (h : RE X e te t) (hbase : attributeBase o "pop" X.env (eval o X.env) = eval o X.env := by rfl)
    (hfew : ((backTo cpos (starEach [e] X.env)).all (fun x => !x.1) && (backToKw cpos (keywordEach [] X.env)).all (fun x => x.1.isSome)
      && decide ([e].length + ([] : List Keyword).length + (if ([] : List Keyword).isEmpty then 0 else 1) < 30)) = true := by rfl)
    (hline : (apos.endLine == cpos.line) = true := by rfl) (hs : starEach [e] X.env = (false, eval e X.env) :: starEach [] X.env := by rfl) (hplain : (backTo cpos (starEach [] X.env)).any (·.1) = false := by rfl) (hK : X.K = K0 := by rfl) :
    RE X (.Call (.Attribute o "pop" apos) [e] [] cpos) (tBM K0 "list" rPopAt to (tCons te tNil)) (dMeth mPopAt do' t) := by
  subst hK
  exact ⟨pe_bm PySem.F.plainAttrs_list PySem.F.slot_list_pop PySem.F.type_list_pop mt_popAt ho.pe (pa_cons h.pe pa_nil hs) hbase hfew hline hs hplain, fun P => ref_meth (K := ⟨X.K, P⟩) rm_popAt (ho.rf P) (h.rf P)⟩
theorem re_pop {to : TE} {do' : DE} {apos cpos : Pos} (K0 : PySem.W.Frag) (ho : RE X o to do') (hbase : attributeBase o "pop" X.env (eval o X.env) = eval o X.env := by rfl) (hline : (apos.endLine == cpos.line) = true := by rfl) (hK : X.K = K0 := by rfl) :
    RE X (.Call (.Attribute o "pop" apos) [] [] cpos) (tBM0 K0 "list" rPop to) (dMeth0 mPop do') := by
  subst hK
  exact ⟨pe_bm0 PySem.F.plainAttrs_list PySem.F.slot_list_pop PySem.F.type_list_pop mt_pop ho.pe hbase hline, fun P => ref_meth0 (K := ⟨X.K, P⟩) rm_pop (ho.rf P)⟩
/-! ### walks, comprehensions -/
variable {tg iter : Expr} {wi : TI} {ti : DI}
theorem ri_seq (K0 : PySem.W.Frag) (h : RE X e te t) (hK : X.K = K0 := by rfl) : RI X tg e (DLE.iAny K0 te) (iSeq t) := by
  subst hK
  exact ⟨DLE.pi_any h.pe, fun P => refI_seq (K := ⟨X.K, P⟩) (h.rf P)⟩
theorem ri_range (hg : Gl X "range") (hm : X.mg "range" = none) (h : RE X e te t) (hs : starEach [e] X.env = [(false, eval e X.env)] := by rfl) : RI X tg (.Call (.Name "range" p) [e] [] pos) (iRng1 (tCons te tNil)) (iRange t) :=
  ⟨pi_range1 hg hm (pa_cons h.pe pa_nil hs) hs, fun P => refI_range (h.rf P)⟩
theorem ri_enum {elts : List Expr} {kk : Nat} {tpos : Pos} (K0 : PySem.W.Frag) (hg : Gl X "enumerate") (hm : X.mg "enumerate" = none) (h : RE X e te t) (hs : starEach [e] X.env = [(false, eval e X.env)] := by rfl) (hK : X.K = K0 := by rfl) : RI X (.Tuple elts kk tpos) (.Call (.Name "enumerate" p) [e] [] pos) (DLE.iEnumA K0 (tCons te tNil)) (iEnum t) := by
  subst hK
  exact ⟨DLE.pi_enumA hg hm (pa_cons h.pe pa_nil hs) hs, fun P => refI_enum (K := ⟨X.K, P⟩) (h.rf P)⟩
theorem ri_zip {elts : List Expr} {kk : Nat} {tpos : Pos} (K0 : PySem.W.Frag) (hg : Gl X "zip") (hm : X.mg "zip" = none) (h : RE X a ta t) (h2 : RE X b tb u) (hs : starEach [a, b] X.env = (false, eval a X.env) :: starEach [b] X.env := by rfl) (hs2 : starEach [b] X.env = (false, eval b X.env) :: starEach [] X.env := by rfl) (hpl : (backTo pos (starEach [b] X.env)).any (·.1) = false := by rfl) (hK : X.K = K0 := by rfl) :
    RI X (.Tuple elts kk tpos) (.Call (.Name "zip" p) [a, b] [] pos) (RZ.iZipA K0 (tCons ta (tCons tb tNil))) (iZip t u) := by
  subst hK
  exact ⟨RZ.pi_zipA hg hm (pa_cons h.pe (pa_cons h2.pe pa_nil hs2) hs) hs hpl, fun P => refI_zip (K := ⟨X.K, P⟩) (h.rf P) (h2.rf P)⟩
structure RTs (X : Cx) (ifs : List Expr) (tt : TT) (b : DT) : Prop where
  pt : PTs X ifs tt
  rf : ∀ P, RefT ⟨X.K, P⟩ tt b
theorem rts_nil : RTs X [] tYes dYes := ⟨pts_nil, fun P => refT_yes⟩
theorem rts_one (h : RT X c tt d1) : RTs X [c] tt d1 := ⟨pts_one h.pt, h.rf⟩
theorem re_comp {vs : List Nat} {elt : Expr} {ifs : List Expr} {scope : Scope} {own : List (Str × Nat)} {g : TG} {dg : DG} {db : DT} {de : DE} (hc : X.calm = true) (hN : X.N.Nodup) (hi : RI X tg iter wi ti) (ok : BlkOk X.N X.env.scope scope own)
    (hg : ∀ (s : Shared) (H : Hp) (C : Addr) (cl : List (Str × Addr)) (fp : List Addr), RG (X.blk s H scope (compEnvC scope cl C X.env) fp) tg g dg) (ho : Own vs g)
    (ht : ∀ (s : Shared) (H : Hp) (C : Addr) (cl : List (Str × Addr)) (fp : List Addr), RTs (X.blk s H scope (compEnvC scope cl C X.env) fp) ifs tt db)
    (he : ∀ (s : Shared) (H : Hp) (C : Addr) (cl : List (Str × Addr)) (fp : List Addr), RE (X.blk s H scope (compEnvC scope cl C X.env) fp) elt te de) (hvs : own.map (·.2) = vs := by rfl) (hs : ∀ x, foldedSetIterable iter X.env x = pure x := by intro _; rfl) :
    RE X (.ListComp elt [⟨tg, iter, ifs, 0⟩] scope pos) (tLc wi g tt te vs) (dComp ti dg db de vs) := by
  subst hvs
  exact ⟨pe_lc hc hN hi.pi ok (fun s H C cl fp => (hg s H C cl fp).pg) (fun s H C cl fp => (ht s H C cl fp).pt) (fun s H C cl fp => (he s H C cl fp).pe) hs,
    fun P => ref_comp (K := ⟨X.K, P⟩) (hi.rf P) (fun P' => (hg X.s_0 X.H_0 0 [] []).rf P') ho (fun P' => (ht X.s_0 X.H_0 0 [] []).rf P') fun P' => (he X.s_0 X.H_0 0 [] []).rf P'⟩
/-! ### targets -/
theorem rg_name {i : Nat} {x : Str} (hN : X.N.Nodup) (hi : X.N[i]? = some x) (hx : Loc X.env.scope x) (hf : X.fn x = true ∨ X.env.scope.names.lookup x = some .local := by first | exact .inl rfl | exact .inr rfl | assumption) : RG X (.Name x pos) (L2.gName i) (DL.gName i) :=
  ⟨pg_name hN hi hx hf, fun P => refG_name i⟩
structure RGn (X : Cx) (es : List Expr) (tg : TGs) (g : DGs) (n : Nat) : Prop where
  rg : RGs X es tg g
  many : Many g n
theorem rgs_nil : RGn X [] L2.gNil DL.gNil 0 := ⟨⟨pgs_nil, fun P => refGs_nil⟩, many_nil⟩
theorem many_cons {g : DG} {gs : DGs} {n : Nat} (h : Many gs n) (hg : ∀ d ρ M Q, g d ρ M Q → ∃ ρ' M', Q ρ' M') : Many (DL.gCons g gs) (n + 1) := fun ds ρ M Q q => by
  cases ds with
  | nil => exact q.elim
  | cons d ds =>
    obtain ⟨ρ', M', q'⟩ := hg d ρ M _ q
    rw [List.length_cons, h ds ρ' M' Q q']
theorem rgs_name {i : Nat} {x : Str} {tgs : TGs} {gs : DGs} {n : Nat} (hN : X.N.Nodup) (hi : X.N[i]? = some x) (hx : Loc X.env.scope x) (h2 : RGn X es tgs gs n)
    (hs : (assignEach (.Name x pos :: es) X.env).map (·.2) = assign (.Name x pos) X.env :: (assignEach es X.env).map (·.2) := by rfl) (hf : X.fn x = true ∨ X.env.scope.names.lookup x = some .local := by first | exact .inl rfl | exact .inr rfl | assumption) :
    RGn X (.Name x pos :: es) (L2.gCons (L2.gName i) tgs) (DL.gCons (DL.gName i) gs) (n + 1) :=
  ⟨⟨pgs_cons (pg_name hN hi hx hf) h2.rg.pg hs, fun P => refGs_cons (refG_name i) (h2.rg.rf P)⟩, many_cons h2.many fun d ρ M Q q => ⟨_, _, q⟩⟩
theorem rg_tup {tgs : TGs} {gs : DGs} {n kk : Nat} (K0 : PySem.W.Frag) (hc : X.calm = true) (h : RGn X es tgs gs n) (hn : (assignEach es X.env).length = n := by rfl) (hst : (assignEach es X.env).findIdx? (·.1) = none := by rfl) (hK : X.K = K0 := by rfl) : RG X (.Tuple es kk pos) (L2.gTup K0 n tgs) (DL.gTup gs) := by
  subst hK
  exact ⟨pg_tup hc h.rg.pg hn hst, fun P => refG_tup (K := ⟨X.K, P⟩) h.many (h.rg.rf P)⟩
theorem rg_sub {i : Expr} {to ti' : TE} {do' di : DE} (h1 : RE X o to do') (h2 : RE X i ti' di) (ha : ∀ v, assign (.Subscript o i pos) X.env v = (do
      let ov ← holding [v] (eval o X.env)
      let iv ← holding [v, ov] (eval i X.env)
      standAt pos
      holding [v, ov, iv] (setItem ov iv v)
      release [v, ov, iv] []) := by intro _; rfl) : RG X (.Subscript o i pos) (L2.gSub to ti' rSetL) (DL.gSub do' di) := ⟨pg_sub h1.pe h2.pe set_list ha, fun P => refG_sub (h1.rf P) (h2.rf P)⟩
/-! ### statements -/
variable {st : Stmt} {sts : List Stmt} {ts us : TS} {s1 s2 : DS}
theorem rss_nil : RSs X [] tNext sNext := ⟨pss_nil, fun P => refS_next⟩
theorem rss_cons (h1 : RS X st ts s1) (h2 : RSs X sts us s2) : RSs X (st :: sts) (tSeq ts us) (sSeq s1 s2) := ⟨pss_cons h1.ps h2.ps, fun P => refS_seq (h1.rf P) (h2.rf P)⟩
theorem rss_one (h1 : RS X st ts s1) : RSs X [st] ts s1 := ⟨pss_one h1.ps, h1.rf⟩
theorem rs_pass : RS X (.Pass pos) tNext sNext := ⟨ps_pass, fun P => refS_next⟩
theorem rs_break : RS X (.Break pos) tBreak sBreak := ⟨ps_break, fun P => refS_break⟩
theorem rs_cont : RS X (.Continue pos) tCont sCont := ⟨ps_continue, fun P => refS_cont⟩
theorem rs_expr (h : RE X e te t) (hs : swapsWith e none pos.line X.env = pure false := by rfl) : RS X (.Expr e pos) (tDrop te) (sExpr t) := ⟨ps_expr h.pe hs, fun P => refS_expr (h.rf P)⟩
theorem rs_ret (h : RE X e te t) : RS X (.Return (some e) pos) (tRet te) (sRet t) := ⟨ps_ret h.pe, fun P => refS_ret (h.rf P)⟩
theorem rs_retN : RS X (.Return none pos) tRetN sRetN := ⟨ps_retN, fun P => refS_retN⟩
theorem rs_if {aa bb : List Stmt} (h : RT X c tt d1) (h1 : RSs X aa ts s1) (h2 : RSs X bb us s2) : RS X (.If c aa bb pos) (tIfS tt ts us) (sIf d1 s1 s2) := ⟨ps_if h.pt h1.ps h2.ps, fun P => refS_if (h.rf P) (h1.rf P) (h2.rf P)⟩
theorem rs_set {i : Nat} {x : Str} {pos' : Pos} (hN : X.N.Nodup) (hi : X.N[i]? = some x) (hx : Loc X.env.scope x) (h : RE X e te t) (hs : swapsWith e (some (.Name x pos')) pos.line X.env = pure false := by rfl) (hf : X.fn x = true ∨ X.env.scope.names.lookup x = some .local := by first | exact .inl rfl | exact .inr rfl | assumption) :
    RS X (.Assign [.Name x pos'] e pos) (tAsg te (L2.gName i)) (sAsg t (DL.gName i)) := ⟨ps_set hN hi hx h.pe hs hf, fun P => refS_asg (h.rf P) (refG_name i)⟩
theorem rs_asg {g : TG} {dg : DG} (h : RE X e te t) (hg : RG X tg g dg) (hs : swapsWithSole [tg] e pos.line X.env = pure false := by rfl) (hw : swappedStores [tg] e X.env = pure none := by rfl)
    (h1 : (assignEach [tg] X.env).map (·.2) = [assign tg X.env] := by rfl) : RS X (.Assign [tg] e pos) (tAsg te g) (sAsg t dg) := ⟨ps_asg h.pe hg.pg hs hw h1, fun P => refS_asg (h.rf P) (hg.rf P)⟩
theorem rs_setLc {vs : List Nat} {i : Nat} {y : Str} {py spos : Pos} {elt : Expr} {ifs : List Expr} {scope : Scope} {own : List (Str × Nat)} {g : TG} {dg : DG} {db : DT} {de : DE} (hc : X.calm = true) (hN : X.N.Nodup) (hy : X.N[i]? = some y) (hyl : X.env.scope.names.lookup y = some .local)
    (hsw : swapsWith (.ListComp elt [⟨tg, iter, ifs, 0⟩] scope pos) (some (.Name y py)) spos.line X.env = pure true) (hi : RI X tg iter wi ti) (ok : BlkOk X.N X.env.scope scope own)
    (hg : ∀ (s : Shared) (H : Hp) (C : Addr) (cl : List (Str × Addr)) (fp : List Addr), RG (X.blk s H scope (compEnvC scope cl C X.env) fp) tg g dg) (ho : Own vs g)
    (ht : ∀ (s : Shared) (H : Hp) (C : Addr) (cl : List (Str × Addr)) (fp : List Addr), RTs (X.blk s H scope (compEnvC scope cl C X.env) fp) ifs tt db)
    (he : ∀ (s : Shared) (H : Hp) (C : Addr) (cl : List (Str × Addr)) (fp : List Addr), RE (X.blk s H scope (compEnvC scope cl C X.env) fp) elt te de) (hvs : own.map (·.2) = vs := by rfl) (hs : ∀ x, foldedSetIterable iter X.env x = pure x := by intro _; rfl) :
    RS X (.Assign [.Name y py] (.ListComp elt [⟨tg, iter, ifs, 0⟩] scope pos) spos) (tAsg (tLc wi g tt te vs) (L2.gName i)) (sAsg (dComp ti dg db de vs) (DL.gName i)) := by
  subst hvs
  exact ⟨ps_setLc hc hN hy hyl hsw hi.pi ok (fun s H C cl fp => (hg s H C cl fp).pg) (fun s H C cl fp => (ht s H C cl fp).pt) (fun s H C cl fp => (he s H C cl fp).pe) hs,
    fun P => refS_asg (ref_comp (K := ⟨X.K, P⟩) (hi.rf P) (fun P' => (hg X.s_0 X.H_0 0 [] []).rf P') ho (fun P' => (ht X.s_0 X.H_0 0 [] []).rf P') fun P' => (he X.s_0 X.H_0 0 [] []).rf P') (refG_name i)⟩
theorem rs_for {body : List Stmt} {g : TG} {dg : DG} (hp : PassesOwn (model X.prog X.w) X.A X.env X.xe) (hc : X.calm = true) (hi : RI X tg iter wi ti) (hg : RG X tg g dg) (hb : RSs X body ts s1) (hs : ∀ x, foldedSetIterable iter X.env x = pure x := by intro _; rfl) :
    RS X (.For tg iter body [] pos) (tFor wi g ts) (sFor ti dg s1) := ⟨ps_for hp hc hi.pi hg.pg hb.ps hs, fun P => refS_for (hi.rf P) (hg.rf P) (hb.rf P)⟩
theorem rs_while {body : List Stmt} (hp : PassesOwn (model X.prog X.w) X.A X.env X.xe) (h : RT X c tt d1) (hb : RSs X body ts s1) : RS X (.While c body [] pos) (tWhile tt ts) (sWhile d1 s1) := ⟨ps_while hp h.pt hb.ps, fun P => refS_while (h.rf P) (hb.rf P)⟩
/-! ### calls -/
/-- a def's promise in the hand layer's words -/
def toSp (K : PySem.W.Frag) (n : Nat) (sp : Spec) : Sp := fun vs H Q _ => ∃ (P : Addr → Prop) (ds : List D) (M : Mem), Reps ⟨K, P⟩ H M ds vs ∧ ds.length = n ∧ MRep ⟨K, P⟩ H M ∧ sp.pre ds M ∧
  ∀ d M', sp.post ds M d M' → ∀ v H', Fr H M H' M' → Rep ⟨K, P⟩ H' M' d v → MRep ⟨K, P⟩ H' M' → Q v H'
theorem ref_call {K : Fg} {n : Nat} {sp : Spec} (h : RefA K n tA dA') : Ref K (tCall (toSp K.K n sp) [] E0 tA) (dCall sp dA') := fun σ H ρ M Q Q' s q l =>
  h σ H ρ M _ _ s q fun vs H1 ds M1 f1 r1 n1 m1 q1 => ⟨K.P, ds, M1, by rw [List.append_nil]; exact r1, n1, m1, q1.1, fun d M' hp v H' f r m => l v H' d M' (f1.trans f) r m (q1.2 d M' hp)⟩
theorem re_call {f : Addr} {fd : FuncData} {ps : List Str} {n : Nat} {sp : Spec} {x : Str} (K0 : PySem.W.Frag) (F : FnOk X.prog X.w X.K X.mg X.base CX0 k f fd ps (toSp X.K n sp)) (hr : Room k X.A) (hg : Gl X x) (hm : X.mg x = some (.ref f)) (hk : PySem.W.keepIn X.K (.ref f) = true) (hb : Binds X.K fd ps [])
    (h : RA X (e :: es) tA dA') (hn : (e :: es).length = n := by rfl) (hdb : (x == ("__debug__" : Str)) = false := by decide) (he : starEach (e :: es) X.env = (false, eval e X.env) :: starEach es X.env := by rfl) (hpl : (backTo pos (starEach es X.env)).any (·.1) = false := by rfl) (hK : X.K = K0 := by rfl) :
    RE X (.Call (.Name x p) (e :: es) [] pos) (tCall (toSp K0 n sp) [] E0 tA) (dCall sp dA') := by
  subst hn
  subst hK
  exact ⟨pe_call F hr hg hm hk hb .nil pass0 h.pa hdb he hpl, fun P => ref_call (K := ⟨X.K, P⟩) (h.rf P)⟩
end
/-! ### defs -/
theorem start_rep {K : Fg} {H : Hp} {M : Mem} {N : List Str} {ds : List D} {vs : List V} (r : Reps K H M ds vs) (m : MRep K H M) : SRep K (L2.start N vs) H (DL.start N.length ds) M := by
  refine ⟨?_, fun i d e => ?_, m⟩
  · unfold L2.start DL.start
    simp [r.length]
  · unfold DL.start at e
    unfold L2.start
    by_cases h : i < ds.length
    · rw [List.getElem?_append_left (by simpa using h), List.getElem?_map] at e
      cases q : ds[i]? with
      | none => rw [q] at e; cases e
      | some d' =>
        rw [q] at e
        cases e
        obtain ⟨v, hv, rv⟩ := r.get q
        refine ⟨v, ?_, rv⟩
        rw [List.getElem?_append_left (by rw [List.length_map, ← r.length]; exact h), List.getElem?_map, hv]
        rfl
    · rw [List.getElem?_append_right (by simpa using h)] at e
      have := List.mem_of_getElem? e
      simp at this
theorem def_ok {P : Program} {w : World} {K : PySem.W.Frag} {mg : Str → Option Value} {base : Heap} {x qual : Str} {params : Arguments} {body : List Stmt} {scope : Scope} {dvs : List V} {kws : List (Str × V)} {f : Addr} {fd : FuncData} {N ps : List Str} {k n : Nat} {sp : Spec} {t : DS}
    (F : FunD K x qual params body scope dvs kws f fd) (S : FnScope N ps scope) (hn : n = ps.length)
    (hbody : ∀ (cdv : Value) (A : Around) (outer : List PySem.Env) (s : Shared) (H : Hp) (E : XK), Room k (A.deeper (envOfC qual scope s.heap.objs.size f cdv)) → ∃ ts, RSs (cxOf CX0 P w K mg base N qual scope f cdv A outer s H E).nox body ts t)
    (does : Does N.length t n sp) : FnOk P w K mg base CX0 (k + 1) f fd ps (toSp K n sp) := by
  refine F.ok S (fun vs H Q E h => ?_) (fun cdv A outer s H vs Q E hr h => ?_)
  · obtain ⟨P', ds, M, r, e, _⟩ := h
    rw [← r.length, e, hn]
  · obtain ⟨P', ds, M, r, e, m, hpre, hpost⟩ := h
    obtain ⟨ts, b⟩ := hbody cdv A outer s H E hr
    refine ⟨ts, b.ps.nox, b.rf P' _ H _ M _ _ (start_rep r m) (does ds M e hpre) ?_⟩
    have fin : ∀ v H' d M', Fr H M H' M' → Rep ⟨K, P'⟩ H' M' d v → MRep ⟨K, P'⟩ H' M' → Ret sp ds M d M' → Q v H' := fun v H' d M' f r m q => by
      obtain ⟨d', M'', ⟨hs, ho⟩, hp⟩ := q
      have f2 : Fr H M H' M'' := f.trans (Fr.sub hs)
      have m2 := m.sub hs
      rcases ho with rfl | ⟨p, xs, rfl, e1, e2, rfl⟩
      · exact hpost d' M'' hp v H' f2 (r.mono (Fr.sub hs)) m2
      · cases r
        obtain ⟨vs', hv, rv⟩ := m.obj p _ e1
        refine hpost _ M'' hp _ H' f2 ⟨p, vs', rfl, ⟨hv, e2, fun z => ?_⟩, rv.mono (Fr.sub hs)⟩ m2
        have := (m.prv p z).2
        rw [e1] at this
        cases this
    exact ⟨fun σ' H' ρ' M' f s q => fin .non H' .non M' f rfl s.mem q, fin, fun _ _ _ _ _ _ q => q.elim, fun _ _ _ _ _ _ q => q.elim⟩
/-- a def as others call it -/
def Fn (P : Program) (w : World) (K : PySem.W.Frag) (mg : Str → Option Value) (base : Heap) (k : Nat) (x : Str) (n : Nat) (sp : Spec) : Prop :=
  ∃ (f : Addr) (fd : FuncData) (ps : List Str), FnOk P w K mg base CX0 k f fd ps (toSp K n sp) ∧ mg x = some (.ref f) ∧ PySem.W.keepIn K (.ref f) = true ∧ Binds K fd ps []
theorem Fn.mono {P : Program} {w : World} {K : PySem.W.Frag} {mg : Str → Option Value} {base : Heap} {j k : Nat} {x : Str} {n : Nat} {sp : Spec} (c : Fn P w K mg base j x n sp) (h : j ≤ k) : Fn P w K mg base k x n sp := by
  obtain ⟨f, fd, ps, h1, h2⟩ := c
  exact ⟨f, fd, ps, h1.mono h, h2⟩
theorem re_fn {X : Cx} {p pos : Pos} {e : Expr} {es : List Expr} {tA : TA} {dA' : DA} {k n : Nat} {sp : Spec} {x : Str} (K0 : PySem.W.Frag) (c : Fn X.prog X.w X.K X.mg X.base k x n sp) (hr : Room k X.A) (hg : Gl X x)
    (h : RA X (e :: es) tA dA') (hn : (e :: es).length = n := by rfl) (hdb : (x == ("__debug__" : Str)) = false := by decide) (he : starEach (e :: es) X.env = (false, eval e X.env) :: starEach es X.env := by rfl) (hpl : (backTo pos (starEach es X.env)).any (·.1) = false := by rfl) (hK : X.K = K0 := by rfl) :
    RE X (.Call (.Name x p) (e :: es) [] pos) (tCall (toSp K0 n sp) [] E0 tA) (dCall sp dA') := by
  subst hK
  obtain ⟨f, fd, ps, h1, h2, h3, h4⟩ := c
  exact re_call X.K h1 hr hg h2 h3 h4 h hn hdb he hpl
/-- a weaker promise, or one of a lower level -/
theorem spec_imp {P : Program} {w : World} {K : PySem.W.Frag} {mg : Str → Option Value} {base : Heap} {f : Addr} {fd : FuncData} {ps : List Str} {k n : Nat} {sp sp' : Spec} (F : FnOk P w K mg base CX0 k f fd ps (toSp K n sp))
    (h : ∀ ds M, sp'.pre ds M → sp.pre ds M ∧ ∀ d M', sp.post ds M d M' → sp'.post ds M d M') : FnOk P w K mg base CX0 k f fd ps (toSp K n sp') := F.imp fun vs H Q E ⟨P', ds, M, r, e, m, hpre, hpost⟩ =>
  ⟨P', ds, M, r, e, m, (h ds M hpre).1, fun d M' q => hpost d M' ((h ds M hpre).2 d M' q)⟩
end DL
/-! DLT: dicts -/
namespace DL
open PySem PySem.Spec PyProof.Rows L2
section
variable {K : Fg} {X : Cx} {tt : TT} {tk tv td ty tz : TE} {b : DT} {dk dv dd dy dz : DE}
theorem keyOf_rep {H : Hp} {M : Mem} {d : D} {v : V} {k : Key} (r : Rep K H M d v) (e : keyOf d = some k) : v = kV k := by
  cases d with
  | int i => cases e; cases r; rfl
  | str x => cases e; cases r; rfl
  | _ => cases e
theorem put_new : ∀ (ks : List Key) (vs : List V) (k : Key) (v : V), k ∉ ks → ks.length = vs.length → putK (ks.zip vs) k v = (ks ++ [k]).zip (vs ++ [v]) := by
  intro ks vs k v hk hl
  have h : ¬ ((ks.zip vs).any fun kv => decide (kv.1 = k)) = true := by
    rw [List.any_eq_true]
    rintro ⟨⟨a, w⟩, hm, he⟩
    have := List.of_mem_zip hm
    have e : a = k := of_decide_eq_true he
    exact hk (e ▸ this.1)
  unfold putK
  rw [if_neg h, List.zip_append hl]
  rfl
theorem valD_rep {H : Hp} {M : Mem} : ∀ (ks : List Key) {ds : List D} {vs : List V} (k : Key), Reps K H M ds vs → ks.length = vs.length →
    (valD ks ds k = none ∧ valV (ks.zip vs) k = none) ∨ ∃ d v, valD ks ds k = some d ∧ valV (ks.zip vs) k = some v ∧ Rep K H M d v
  | [], ds, vs, k, r, hl => by
    refine .inl ⟨by cases ds <;> rfl, by rw [List.zip_nil_left]; rfl⟩
  | a :: ks, [], vs, k, r, hl => by
    rw [show vs = [] from r] at hl
    cases hl
  | a :: ks, d :: ds, _, k, ⟨v, t, rfl, hr, rt⟩, hl => by
    simp only [valD, List.zip_cons_cons]
    by_cases e : a = k
    · rw [if_pos e, valV_pos e]
      exact .inr ⟨d, v, rfl, rfl, hr⟩
    · rw [if_neg e, valV_neg e]
      exact valD_rep ks k rt (by simpa using hl)
theorem ref_get2 (h1 : Ref K td dd) (h2 : Ref K ty dy) (h3 : Ref K tz dz) : Ref K (tDGet2 td ty tz) (dGet2 dd dy dz) := fun σ H ρ M Q Q' s q l =>
  h1 σ H ρ M _ _ s q fun v1 H1 d1 M1 f1 r1 m1 q1 => by
    cases d1 with
    | dK ks ds =>
      obtain ⟨a, vs, rfl, ⟨ha, ma, pa⟩, hl, rs⟩ := r1
      refine ⟨a, rfl, .inl ⟨_, .inl ha⟩, ?_⟩
      refine h2 σ H1 ρ M1 _ _ (s.step f1 m1) q1 fun v2 H2 d2 M2 f2 r2 m2 q2 => ?_
      refine h3 σ H2 ρ M2 _ _ (s.step (f1.trans f2) m2) q2 fun v3 H3 d3 M3 f3 r3 m3 q3 => ?_
      have F : Fr H1 M1 H3 M3 := f2.trans f3
      cases ek : keyOf d2 with
      | none => rw [ek] at q3; exact q3.elim
      | some k =>
        rw [ek] at q3
        replace q3 : Q ((valD ks ds k).getD d3) M3 := q3
        have e2 := keyOf_rep r2 ek
        subst e2
        refine ⟨_, DGet.k (F a _ ha ma).1, ?_⟩
        rcases valD_rep ks k (rs.mono F) hl with ⟨e1, e2⟩ | ⟨d, v, e1, e2, rv⟩
        · rw [e1] at q3
          rw [e2]
          exact l _ H3 d3 M3 (f1.trans F) r3 m3 q3
        · rw [e1] at q3
          rw [e2]
          exact l _ H3 d M3 (f1.trans F) rv m3 q3
    | _ => exact False.elim q1
theorem ref_dcomp {wi : TI} {ti : DI} {tg : TG} {g : DG} {vs : List Nat} (hi : RefI K wi ti) (hg : ∀ P, RefG ⟨K.K, P⟩ tg g) (ho : Own vs tg) (ht : ∀ P, RefT ⟨K.K, P⟩ tt b) (hk : ∀ P, Ref ⟨K.K, P⟩ tk dk) (he : ∀ P, Ref ⟨K.K, P⟩ tv dv) : Ref K (tDc wi tg tt tk tv vs) (dDComp ti g b dk dv vs) := fun σ H ρ M Q Q' s q l =>
  hi σ H ρ M _ _ s q fun J H1 ds M1 f1 m1 gv q1 D hD => by
    obtain ⟨hz, q1⟩ := q1
    have mD : M1 D = none := m1.free hD
    have hid := hide_new (K := K) hD
    refine ⟨fun i m H' => ∃ M' ks acc accV, Fr H1 M1 H' M' ∧ MRep (K.hide D) H' M' ∧ H' D = some (.dK (ks.zip accV)) ∧ ks.length = accV.length ∧ M' D = none ∧ Reps (K.hide D) H' M' acc accV ∧ acc.length ≤ i ∧ i ≤ ds.length ∧ m = ds.length - i ∧ dDCompL g b dk dv (DL.wipe ρ vs) (ds.drop i) ks acc M' Q,
      ⟨ds.length, M1, [], [], [], Fr.new hD, m1.hide hD, upd_same, rfl, mD, rfl, Nat.zero_le _, Nat.zero_le _, by simp, q1⟩, ?_⟩
    rintro i m H' ⟨M', ks, acc, accV, f, m', hD', hkl, mD', ra, ha, hi', rfl, qq⟩
    by_cases hlt : i < ds.length
    · obtain ⟨d, hd, hdr⟩ := drop_cons hlt
      rw [hdr] at qq
      refine .inr ⟨gv.go i H' M' f hlt, fun H2 => ∃ M2 ks2 acc2 accV2, Fr H1 M1 H2 M2 ∧ MRep (K.hide D) H2 M2 ∧ H2 D = some (.dK (ks2.zip accV2)) ∧ ks2.length = accV2.length ∧ M2 D = none ∧ Reps (K.hide D) H2 M2 acc2 accV2 ∧ acc2.length ≤ i + 1 ∧ dDCompL g b dk dv (DL.wipe ρ vs) (ds.drop (i + 1)) ks2 acc2 M2 Q,
        fun H2 ⟨M2, ks2, acc2, accV2, z1, z2, z3, z3', z4, z5, z6, z7⟩ => ⟨ds.length - (i + 1), by omega, M2, ks2, acc2, accV2, z1, z2, z3, z3', z4, z5, z6, hlt, rfl, z7⟩, fun x H2 y => ?_⟩
      obtain ⟨f2, m2, r2⟩ := gv.yld (K.hide D).P hid i H' M' x H2 f m' y d hd
      have s2 : SRep (K.hide D) (L2.wipe σ vs) H2 (DL.wipe ρ vs) M' := by
        have z : SRep (K.hide D) σ H2 ρ M' := ⟨s.len, fun i d e => let ⟨v, q, r⟩ := s.env i d e; ⟨v, q, ((r.mono f1).hides hid).mono (f.trans f2)⟩, m2⟩
        exact z.wipe vs
      refine ho x _ H2 _ _ (fun σ3 H3 e3 q3 => ⟨by rw [e3]; exact wipe_wipe fun _ h => h, q3⟩) (hg _ x d _ H2 _ M' _ _ s2 r2 qq fun σ3 H3 ρ3 M3 f3 s3 q3 => ?_)
      refine ht _ σ3 H3 ρ3 M3 _ _ s3 q3 fun k H4 M4 f4 m4 q4 => ?_
      have F4 : Fr H1 M1 H4 M4 := ((f.trans f2).trans f3).trans f4
      have F4' : Fr H' M' H4 M4 := (f2.trans f3).trans f4
      cases k with
      | true =>
        rw [if_pos rfl] at q4 ⊢
        refine hk _ σ3 H4 ρ3 M4 _ _ (s3.step f4 m4) q4 fun y5 H5 dy M5 f5 r5 m5 q5 => ?_
        refine he _ σ3 H5 ρ3 M5 _ _ (s3.step (f4.trans f5) m5) q5 fun v H6 dv M6 f6 r6 m6 q6 => ?_
        have F6 : Fr H1 M1 H6 M6 := (F4.trans f5).trans f6
        have F6' : Fr H' M' H6 M6 := (F4'.trans f5).trans f6
        obtain ⟨hD6, mD6⟩ := F6' D _ hD' mD'
        cases ek : keyOf dy with
        | none => rw [ek] at q6; exact q6.elim
        | some kk =>
          rw [ek] at q6
          have e5 := keyOf_rep r5 ek
          have hlz : (ks.zip accV).length < 100000 := by
            have := ra.length
            rw [List.length_zip]
            omega
          refine ⟨ks.zip accV, kk, e5, hD6, szLt hlz, M6, ks ++ [kk], acc ++ [dv], accV ++ [v], fun a o e w => ?_, MRep.priv (K := K.hide D) m6 (.inr rfl), by rw [put_new ks accV kk v q6.1 hkl]; exact upd_same, by simp [hkl], mD6, Reps.priv (K := K.hide D) (.inr rfl) ((ra.mono F6').snoc r6), by rw [List.length_append]; show acc.length + 1 ≤ i + 1; omega, q6.2⟩
          have ne := ne_of_none e hD
          obtain ⟨z1, z2⟩ := F6 a o e w
          exact ⟨by rw [upd_ne ne]; exact z1, z2⟩
      | false =>
        rw [if_neg Bool.false_ne_true] at q4 ⊢
        obtain ⟨hD4, mD4⟩ := F4' D _ hD' mD'
        exact ⟨M4, ks, acc, accV, F4, m4, hD4, hkl, mD4, ra.mono F4', by omega, q4⟩
    · have e : i = ds.length := by omega
      subst e
      rw [List.drop_length] at qq
      refine .inl ⟨gv.stop H' M' f, ?_⟩
      exact l _ H' (.dK ks acc) M' (f1.trans f) ⟨D, accV, rfl, ⟨hD', mD', m1.nprv hD⟩, hkl, ra.bare⟩ m'.bare qq
end
section
variable {X : Cx} {pos : Pos} {k : Nat}
theorem re_get2 {o e f : Expr} {apos cpos : Pos} {td ty tz : TE} {dd dy dz : DE} (hr : Room k X.A) (ho : RE X o td dd) (he : RE X e ty dy) (hf : RE X f tz dz) (hbase : attributeBase o "get" X.env (eval o X.env) = eval o X.env := by rfl)
    (hfew : ((backTo cpos (starEach [e, f] X.env)).all (fun x => !x.1) && (backToKw cpos (keywordEach [] X.env)).all (fun x => x.1.isSome)
      && decide (([e, f] : List Expr).length + ([] : List Keyword).length + (if ([] : List Keyword).isEmpty then 0 else 1) < 30)) = true := by rfl)
    (hline : (apos.endLine == cpos.line) = true := by rfl) (htrees : backTo cpos (starEach [e, f] X.env) = [(false, eval e X.env), (false, eval f X.env)] := by rfl) :
    RE X (.Call (.Attribute o "get" apos) [e, f] [] cpos) (tDGet2 td ty tz) (dGet2 dd dy dz) :=
  ⟨pe_dget2 (by have := hr.un; omega) ho.pe he.pe hf.pe ⟨hbase, hfew, hline, htrees⟩, fun P => ref_get2 (ho.rf P) (he.rf P) (hf.rf P)⟩
theorem re_dcomp {tg iter : Expr} {wi : TI} {ti : DI} {tt : TT} {tk tv : TE} {vs : List Nat} {kx vx : Expr} {ifs : List Expr} {scope : Scope} {own : List (Str × Nat)} {g : TG} {dg : DG} {db : DT} {dk dv : DE} (hc : X.calm = true) (hN : X.N.Nodup) (hi : RI X tg iter wi ti) (ok : BlkOk X.N X.env.scope scope own)
    (hg : ∀ (s : Shared) (H : Hp) (C : Addr) (cl : List (Str × Addr)) (fp : List Addr), RG (X.blk s H scope (compEnvC scope cl C X.env) fp) tg g dg) (ho : Own vs g)
    (ht : ∀ (s : Shared) (H : Hp) (C : Addr) (cl : List (Str × Addr)) (fp : List Addr), RTs (X.blk s H scope (compEnvC scope cl C X.env) fp) ifs tt db)
    (hk : ∀ (s : Shared) (H : Hp) (C : Addr) (cl : List (Str × Addr)) (fp : List Addr), RE (X.blk s H scope (compEnvC scope cl C X.env) fp) kx tk dk)
    (he : ∀ (s : Shared) (H : Hp) (C : Addr) (cl : List (Str × Addr)) (fp : List Addr), RE (X.blk s H scope (compEnvC scope cl C X.env) fp) vx tv dv) (hvs : own.map (·.2) = vs := by rfl) (hs : ∀ x, foldedSetIterable iter X.env x = pure x := by intro _; rfl) :
    RE X (.DictComp kx vx [⟨tg, iter, ifs, 0⟩] scope pos) (tDc wi g tt tk tv vs) (dDComp ti dg db dk dv vs) := by
  subst hvs
  exact ⟨pe_dc hc hN hi.pi ok (fun s H C cl fp => (hg s H C cl fp).pg) (fun s H C cl fp => (ht s H C cl fp).pt) (fun s H C cl fp => (hk s H C cl fp).pe) (fun s H C cl fp => (he s H C cl fp).pe) hs,
    fun P => ref_dcomp (K := ⟨X.K, P⟩) (hi.rf P) (fun P' => (hg X.s_0 X.H_0 0 [] []).rf P') ho (fun P' => (ht X.s_0 X.H_0 0 [] []).rf P') (fun P' => (hk X.s_0 X.H_0 0 [] []).rf P') fun P' => (he X.s_0 X.H_0 0 [] []).rf P'⟩
end
end DL
/-! DLU: lists unpacked, +=, max, index, comprehensions whose list may change -/
namespace DL
open PySem PySem.Spec PyProof.Rows L2
section
variable {K : Fg} {H : Hp} {M : Mem} {D0 : Addr}
mutual
/-- what does not name a private place does not mind that the memory knows it -/
theorem Rep.shown {o : MO} : ∀ {d : D} {v : V}, Rep (K.hide D0) H M d v → Rep K H (mset M D0 o) d v
  | .non, _, h => h
  | .bl _, _, h => h
  | .int _, _, h => h
  | .str _, _, h => h
  | .ref _, _, h => h
  | .ty _, _, h => h
  | .cls _, _, h => h
  | .tup ds, _, ⟨a, vs, e, q, r⟩ => ⟨a, vs, e, by
      rcases q with ⟨q, m, p⟩ | q
      · have ne : a ≠ D0 := fun z => p (.inr z)
        exact .inl ⟨q, by rw [mset_ne ne]; exact m, fun z => p (.inl z)⟩
      · exact .inr q, Reps.shown r⟩
  | .lst ds, _, ⟨a, vs, e, q, r⟩ => ⟨a, vs, e, ⟨q.1, by rw [mset_ne (show a ≠ D0 from fun z => q.2.2 (.inr z))]; exact q.2.1, fun z => q.2.2 (.inl z)⟩, Reps.shown r⟩
  | .rol ds, _, ⟨a, vs, e, q, r⟩ => ⟨a, vs, e, by
      rcases q with ⟨q, m, p⟩ | q
      · have ne : a ≠ D0 := fun z => p (.inr z)
        exact .inl ⟨q, by rw [mset_ne ne]; exact m, fun z => p (.inl z)⟩
      · exact .inr q, Reps.shown r⟩
  | .dK ks ds, _, ⟨a, vs, e, q, z, r⟩ => ⟨a, vs, e, ⟨q.1, by rw [mset_ne (show a ≠ D0 from fun z => q.2.2 (.inr z))]; exact q.2.1, fun z => q.2.2 (.inl z)⟩, z, Reps.shown r⟩
  | .dT ks ds, _, ⟨a, vs, e, q, z, r⟩ => ⟨a, vs, e, ⟨q.1, by rw [mset_ne (show a ≠ D0 from fun z => q.2.2 (.inr z))]; exact q.2.1, fun z => q.2.2 (.inl z)⟩, z, Reps.shown r⟩
  | .ins C ns ds, _, ⟨a, dx, vs, e, q, z, r⟩ => ⟨a, dx, vs, e, ⟨q.1, by rw [mset_ne (show a ≠ D0 from fun z => q.2.2 (.inr z))]; exact q.2.1, fun z => q.2.2 (.inl z)⟩, z, Reps.shown r⟩
theorem Reps.shown {o : MO} : ∀ {ds : List D} {vs : List V}, Reps (K.hide D0) H M ds vs → Reps K H (mset M D0 o) ds vs
  | [], _, h => h
  | d :: ds, _, ⟨v, r, e, q, t⟩ => ⟨v, r, e, Rep.shown q, Reps.shown t⟩
end
/-- the private place becomes a list of the memory -/
theorem MRep.shown {acc : List D} {accV : List V} (m : MRep (K.hide D0) H M) (hD : H D0 = some (.lst accV)) (mD : M D0 = none) (nP : ¬ K.P D0) (r : Reps (K.hide D0) H M acc accV) : MRep K H (mset M D0 (.lst acc)) := by
  refine ⟨fun a u e => ?_, fun a q => ?_⟩
  · by_cases z : a = D0
    · subst z
      rw [mset_same] at e
      cases e
      exact ⟨accV, hD, r.shown⟩
    · rw [mset_ne z] at e
      have q := m.obj a u e
      cases u with
      | lst ds => obtain ⟨vs, e, r⟩ := q; exact ⟨vs, e, r.shown⟩
      | dK ks ds => obtain ⟨vs, e, z, r⟩ := q; exact ⟨vs, e, z, r.shown⟩
      | dT ks ds => obtain ⟨vs, e, z, r⟩ := q; exact ⟨vs, e, z, r.shown⟩
      | ins C ns ds => obtain ⟨dx, vs, e, z, r⟩ := q; exact ⟨dx, vs, e, z, r.shown⟩
      | deck k b =>
        refine DeckRep.keep (K := K.hide D0) (K' := K) (M' := mset M D0 (.lst acc)) q (fun x u _ e => e) (fun x _ e => e) (fun x w => ?_) (fun x w ex mx px => ⟨ex, by rw [mset_ne (show x ≠ D0 from fun z => px (.inr z))]; exact mx, fun z => px (.inl z)⟩)
        rw [mset_ne (show x ≠ D0 from fun z => by rw [z, mD] at w; cases w)]
        exact w
      | part c => exact q
  · obtain ⟨w, ma⟩ := m.prv a (.inl q)
    exact ⟨w, by rw [mset_ne (show a ≠ D0 from fun z => nP (z ▸ q))]; exact ma⟩
end
section
variable {K : Fg} {X : Cx} {tt : TT} {te : TE} {b : DT} {de : DE}
theorem ref_compN {wi : TI} {ti : DI} {tg : TG} {g : DG} {vs : List Nat} (hi : RefI K wi ti) (hg : ∀ P, RefG ⟨K.K, P⟩ tg g) (ho : Own vs tg) (ht : ∀ P, RefT ⟨K.K, P⟩ tt b) (he : ∀ P, Ref ⟨K.K, P⟩ te de) : Ref K (tLc wi tg tt te vs) (dCompN ti g b de vs) := fun σ H ρ M Q Q' s q l =>
  hi σ H ρ M _ _ s q fun J H1 ds M1 f1 m1 gv q1 D hD => by
    obtain ⟨hz, q1⟩ := q1
    have mD : M1 D = none := m1.free hD
    have hid := hide_new (K := K) hD
    refine ⟨fun i m H' => ∃ M' acc accV, Fr H1 M1 H' M' ∧ MRep (K.hide D) H' M' ∧ H' D = some (.lst accV) ∧ M' D = none ∧ Reps (K.hide D) H' M' acc accV ∧ acc.length ≤ i ∧ i ≤ ds.length ∧ m = ds.length - i ∧ dCompL g b de (DL.wipe ρ vs) (ds.drop i) acc M' (fun x M1 => match x with
      | .lst xs => ∀ p, M1 p = none → Q (.ref p) (mset M1 p (.lst xs))
      | _ => False),
      ⟨ds.length, M1, [], [], Fr.new hD, m1.hide hD, upd_same, mD, rfl, Nat.zero_le _, Nat.zero_le _, by simp, q1⟩, ?_⟩
    rintro i m H' ⟨M', acc, accV, f, m', hD', mD', ra, ha, hi', rfl, qq⟩
    by_cases hlt : i < ds.length
    · obtain ⟨d, hd, hdr⟩ := drop_cons hlt
      rw [hdr] at qq
      refine .inr ⟨gv.go i H' M' f hlt, fun H2 => ∃ M2 acc2 accV2, Fr H1 M1 H2 M2 ∧ MRep (K.hide D) H2 M2 ∧ H2 D = some (.lst accV2) ∧ M2 D = none ∧ Reps (K.hide D) H2 M2 acc2 accV2 ∧ acc2.length ≤ i + 1 ∧ dCompL g b de (DL.wipe ρ vs) (ds.drop (i + 1)) acc2 M2 (fun x M1 => match x with
        | .lst xs => ∀ p, M1 p = none → Q (.ref p) (mset M1 p (.lst xs))
        | _ => False),
        fun H2 ⟨M2, acc2, accV2, z1, z2, z3, z4, z5, z6, z7⟩ => ⟨ds.length - (i + 1), by omega, M2, acc2, accV2, z1, z2, z3, z4, z5, z6, hlt, rfl, z7⟩, fun x H2 y => ?_⟩
      obtain ⟨f2, m2, r2⟩ := gv.yld (K.hide D).P hid i H' M' x H2 f m' y d hd
      have s2 : SRep (K.hide D) (L2.wipe σ vs) H2 (DL.wipe ρ vs) M' := by
        have z : SRep (K.hide D) σ H2 ρ M' := ⟨s.len, fun i d e => let ⟨v, q, r⟩ := s.env i d e; ⟨v, q, ((r.mono f1).hides hid).mono (f.trans f2)⟩, m2⟩
        exact z.wipe vs
      refine ho x _ H2 _ _ (fun σ3 H3 e3 q3 => ⟨by rw [e3]; exact wipe_wipe fun _ h => h, q3⟩) (hg _ x d _ H2 _ M' _ _ s2 r2 qq fun σ3 H3 ρ3 M3 f3 s3 q3 => ?_)
      refine ht _ σ3 H3 ρ3 M3 _ _ s3 q3 fun k H4 M4 f4 m4 q4 => ?_
      have F4 : Fr H1 M1 H4 M4 := ((f.trans f2).trans f3).trans f4
      have F4' : Fr H' M' H4 M4 := (f2.trans f3).trans f4
      cases k with
      | true =>
        rw [if_pos rfl] at q4 ⊢
        refine he _ σ3 H4 ρ3 M4 _ _ (s3.step f4 m4) q4 fun v H5 dv M5 f5 r5 m5 q5 => ?_
        have F5 : Fr H1 M1 H5 M5 := F4.trans f5
        have F5' : Fr H' M' H5 M5 := F4'.trans f5
        obtain ⟨hD5, mD5⟩ := F5' D _ hD' mD'
        refine ⟨accV, hD5, szLt (by rw [← ra.length]; omega), M5, acc ++ [dv], accV ++ [v], fun a o e w => ?_, MRep.priv (K := K.hide D) m5 (.inr rfl), upd_same, mD5, Reps.priv (K := K.hide D) (.inr rfl) ((ra.mono F5').snoc r5), by rw [List.length_append]; show acc.length + 1 ≤ i + 1; omega, q5⟩
        have ne := ne_of_none e hD
        obtain ⟨z1, z2⟩ := F5 a o e w
        exact ⟨by rw [upd_ne ne]; exact z1, z2⟩
      | false =>
        rw [if_neg Bool.false_ne_true] at q4 ⊢
        obtain ⟨hD4, mD4⟩ := F4' D _ hD' mD'
        exact ⟨M4, acc, accV, F4, m4, hD4, mD4, ra.mono F4', by omega, q4⟩
    · have e : i = ds.length := by omega
      subst e
      rw [List.drop_length] at qq
      refine .inl ⟨gv.stop H' M' f, ?_⟩
      refine l _ H' (.ref D) (mset M' D (.lst acc)) (f1.trans fun a o e w => ?_) rfl (m'.shown hD' mD' (m1.nprv hD) ra) (qq D mD')
      have ne := ne_of_none e hD
      obtain ⟨z1, z2⟩ := f a o e w
      exact ⟨z1, by rw [mset_ne ne]; exact z2⟩
theorem rf_catN : RefR K rCat oCatN := fun x y H M dx dy Q Q' rx ry m q l => by
  unfold oCatN at q
  cases e1 : asW M dx with
  | none => rw [e1] at q; exact q.elim
  | some a =>
    cases e2 : asW M dy with
    | none => rw [e1, e2] at q; exact q.elim
    | some b =>
      rw [e1, e2] at q
      obtain ⟨a1, v1, rfl, h1, r1⟩ := asW_rep m rx e1
      obtain ⟨a2, v2, rfl, h2, r2⟩ := asW_rep m ry e2
      exact ⟨a1, a2, v1, v2, rfl, rfl, h1, h2, szLe (by rw [← r1.length, ← r2.length]; exact q.1), fun p hp => l _ _ (.ref p) _ (Fr.newM hp) rfl (mrep_newM m hp (r1.append r2)) (q.2 p (m.free hp))⟩
theorem refG_lst {tgs : TGs} {gs : DGs} {n : Nat} (hn : ∀ ds ρ M Q, gs ds ρ M Q → ds.length = n) (h : RefGs K tgs gs) : RefG K (L2.gLst K.K n tgs) (DL.gLst gs) := fun v d σ H ρ M Q Q' s r q l => by
  unfold DL.gLst at q
  cases e : asL M d with
  | none => rw [e] at q; exact q.elim
  | some xs =>
    rw [e] at q
    obtain ⟨a, vs, rfl, h1, rr⟩ := asL_rep s.mem r e
    exact ⟨a, vs, rfl, h1, by rw [← rr.length]; exact hn _ _ _ _ q, h vs xs σ H ρ M _ _ s rr q l⟩
theorem ix_rep {H : Hp} {M : Mem} {d : D} {y : V} (g : flat d = true) (q : Rep K H M d y) : ∀ {ds : List D} {vs : List V} (k j : Nat), ds.all flat = true → Reps K H M ds vs → ixOf ds d k = some j → ∃ (i : Nat) (z : V), j = k + i ∧ vs[i]? = some z ∧ eqV z y = true ∧ ∀ (m : Nat) (z' : V), m < i → vs[m]? = some z' → eqV z' y = false
  | [], _, k, j, _, _, e => by cases e
  | c :: ds, _, k, j, p, ⟨v, r, rfl, hr, rt⟩, e => by
    simp only [List.all_cons, Bool.and_eq_true] at p
    have ev := flat_eqv p.1 g hr q
    simp only [ixOf] at e
    split at e
    · rename_i h
      cases e
      exact ⟨0, v, rfl, rfl, ev.trans h, fun m z' hm => by omega⟩
    · rename_i h
      obtain ⟨i, z, e1, e2, e3, e4⟩ := ix_rep g q (k + 1) j p.2 rt e
      refine ⟨i + 1, z, by omega, by rw [List.getElem?_cons_succ]; exact e2, e3, fun m z' hm hz => ?_⟩
      cases m with
      | zero =>
        rw [List.getElem?_cons_zero] at hz
        cases hz
        rw [ev]
        exact Bool.eq_false_iff.mpr h
      | succ m => exact e4 m z' (by omega) (by rwa [List.getElem?_cons_succ] at hz)
theorem rm_index : ∀ x y H M dx dy Q Q', Rep K H M dx x → Rep K H M dy y → MRep K H M → mIndex dx dy M Q → Lift K H M Q Q' → rIndex K.K x [y] H Q' := fun x y H M dx dy Q Q' rx ry m q l => by
  unfold mIndex at q
  cases e : asL M dx with
  | none => rw [e] at q; exact q.elim
  | some ys =>
    rw [e] at q
    obtain ⟨a, vs, rfl, h1, rr⟩ := asL_rep m rx e
    obtain ⟨f1, f2, q⟩ := q
    cases ei : ixOf ys dy 0 with
    | none => rw [ei] at q; exact q.elim
    | some j =>
      rw [ei] at q
      obtain ⟨i, z, e1, e2, e3, e4⟩ := ix_rep f1 ry 0 j f2 rr ei
      have ej : j = i := by omega
      subst ej
      exact ⟨a, vs, y, j, z, rfl, rfl, h1, flat_rep f1 ry, (flat_all f1 ry f2 rr).1, e2, e3, e4, finI l m q⟩
end
section
variable {X : Cx} {pos p : Pos} {k : Nat} {e o : Expr} {te to : TE} {t do' : DE}
theorem re_catN {a c : Expr} {ta tb : TE} {ua ub : DE} (h1 : RE X a ta ua) (h2 : RE X c tb ub) : RE X (.BinOp a .Add c pos) (tOp rCat ta tb) (dOp oCatN ua ub) := ⟨pe_op op_cat h1.pe h2.pe, fun P => ref_op rf_catN (h1.rf P) (h2.rf P)⟩
theorem rs_aug {i : Nat} {x : Str} {pos' : Pos} (hN : X.N.Nodup) (hi : X.N[i]? = some x) (hx : Loc X.env.scope x) (h : RE X e te t) (hf : X.fn x = true ∨ X.env.scope.names.lookup x = some .local := by first | exact .inl rfl | exact .inr rfl | assumption) :
    RS X (.AugAssign (.Name x pos') .Add e pos) (tAug i te (ipI fun i j => i + j)) (sAug i t oAddI) := ⟨ps_aug hN hi hx h.pe ip_add hf, fun P => refS_aug rf_addI (h.rf P)⟩
theorem re_max2 {a c : Expr} {ta tb : TE} {ua ub : DE} (hc : X.calm = true) (hg : Gl X "max") (hm : X.mg "max" = none) (h1 : RE X a ta ua) (h2 : RE X c tb ub)
    (he : starEach [a, c] X.env = (false, eval a X.env) :: starEach [c] X.env := by rfl) (he2 : starEach [c] X.env = (false, eval c X.env) :: starEach [] X.env := by rfl) (hpl : (backTo pos (starEach [c] X.env)).any (·.1) = false := by rfl) :
    RE X (.Call (.Name "max" p) [a, c] [] pos) (tCB rMax2' (tCons ta (tCons tb tNil))) (dOp oMax ua ub) :=
  ⟨pe_callB (call_max2 hc) hg hm boot_max (pa_cons h1.pe (pa_cons h2.pe pa_nil he2) he) (by decide) (by decide) he hpl, fun P => ref_cb2 rf_max (h1.rf P) (h2.rf P)⟩
theorem rg_lst {es : List Expr} {tgs : TGs} {gs : DGs} {n kk : Nat} (K0 : PySem.W.Frag) (hc : X.calm = true) (h : RGn X es tgs gs n) (hn : (assignEach es X.env).length = n := by rfl) (hst : (assignEach es X.env).findIdx? (·.1) = none := by rfl) (hK : X.K = K0 := by rfl) : RG X (.Tuple es kk pos) (L2.gLst K0 n tgs) (DL.gLst gs) := by
  subst hK
  exact ⟨pg_lst hc h.rg.pg hn hst, fun P => refG_lst (K := ⟨X.K, P⟩) h.many (h.rg.rf P)⟩
theorem re_index {apos cpos : Pos} (K0 : PySem.W.Frag) (ho : RE X o to do') (h : RE X e te t) (hbase : attributeBase o "index" X.env (eval o X.env) = eval o X.env := by rfl)
    (hfew : ((backTo cpos (starEach [e] X.env)).all (fun x => !x.1) && (backToKw cpos (keywordEach [] X.env)).all (fun x => x.1.isSome)
      && decide ([e].length + ([] : List Keyword).length + (if ([] : List Keyword).isEmpty then 0 else 1) < 30)) = true := by rfl)
    (hline : (apos.endLine == cpos.line) = true := by rfl) (hs : starEach [e] X.env = (false, eval e X.env) :: starEach [] X.env := by rfl) (hplain : (backTo cpos (starEach [] X.env)).any (·.1) = false := by rfl) (hK : X.K = K0 := by rfl) :
    RE X (.Call (.Attribute o "index" apos) [e] [] cpos) (tBM K0 "list" (rIndex K0) to (tCons te tNil)) (dMeth mIndex do' t) := by
  subst hK
  exact ⟨pe_bm PySem.F.plainAttrs_list PySem.F.slot_list_index PySem.F.type_list_index mt_index ho.pe (pa_cons h.pe pa_nil hs) hbase hfew hline hs hplain, fun P => ref_meth (K := ⟨X.K, P⟩) rm_index (ho.rf P) (h.rf P)⟩
theorem re_compN {tg iter : Expr} {wi : TI} {ti : DI} {tt : TT} {vs : List Nat} {elt : Expr} {ifs : List Expr} {scope : Scope} {own : List (Str × Nat)} {g : TG} {dg : DG} {db : DT} {de : DE} (hc : X.calm = true) (hN : X.N.Nodup) (hi : RI X tg iter wi ti) (ok : BlkOk X.N X.env.scope scope own)
    (hg : ∀ (s : Shared) (H : Hp) (C : Addr) (cl : List (Str × Addr)) (fp : List Addr), RG (X.blk s H scope (compEnvC scope cl C X.env) fp) tg g dg) (ho : Own vs g)
    (ht : ∀ (s : Shared) (H : Hp) (C : Addr) (cl : List (Str × Addr)) (fp : List Addr), RTs (X.blk s H scope (compEnvC scope cl C X.env) fp) ifs tt db)
    (he : ∀ (s : Shared) (H : Hp) (C : Addr) (cl : List (Str × Addr)) (fp : List Addr), RE (X.blk s H scope (compEnvC scope cl C X.env) fp) elt te de) (hvs : own.map (·.2) = vs := by rfl) (hs : ∀ x, foldedSetIterable iter X.env x = pure x := by intro _; rfl) :
    RE X (.ListComp elt [⟨tg, iter, ifs, 0⟩] scope pos) (tLc wi g tt te vs) (dCompN ti dg db de vs) := by
  subst hvs
  exact ⟨pe_lc hc hN hi.pi ok (fun s H C cl fp => (hg s H C cl fp).pg) (fun s H C cl fp => (ht s H C cl fp).pt) (fun s H C cl fp => (he s H C cl fp).pe) hs,
    fun P => ref_compN (K := ⟨X.K, P⟩) (hi.rf P) (fun P' => (hg X.s_0 X.H_0 0 [] []).rf P') ho (fun P' => (ht X.s_0 X.H_0 0 [] []).rf P') fun P' => (he X.s_0 X.H_0 0 [] []).rf P'⟩
end
end DL
/-! DLV: t[::-1], t == (), {}, defaults -/
namespace DL
open PySem PySem.Spec PyProof.Rows L2
section
variable {prog : Program} {w : World} {A : Around} {E : Value → Shared → Prop} {s : Shared}
theorem adjust_rev (n : Nat) : Builtin.Slice.sliceAdjust none none (-1) (n : Int) = ((n : Int) - 1, -1) := rfl
theorem places_rev (n : Nat) : Builtin.Slice.slicePlaces ((n : Int) - 1) (-1) (-1) = n := by
  unfold Builtin.Slice.slicePlaces
  have h1 : ¬ ((-1 : Int) > 0) := by decide
  simp only [h1, if_false]
  rw [show (- -1 : Int) = 1 by decide, Int.ediv_one]
  split <;> omega
theorem pick_rev (xs : Array Value) : ((List.range xs.size).filterMap fun (m : Nat) => xs[(((xs.size : Int) - 1) + (m : Int) * (-1)).toNat]?).toArray = xs.toList.reverse.toArray := by
  have e : (fun (m : Nat) => xs[(((xs.size : Int) - 1) + (m : Int) * (-1)).toNat]?) = fun (m : Nat) => xs[(((xs.size : Int) - 1) - (m : Int)).toNat]? := by
    funext m
    rw [show ((xs.size : Int) - 1) + (m : Int) * (-1) = ((xs.size : Int) - 1) - (m : Int) by omega]
  rw [e]
  have e2 : (List.range xs.size).filterMap (fun (m : Nat) => xs[(((xs.size : Int) - 1) - (m : Int)).toNat]?) = ((List.range xs.size).map fun k => xs.size - 1 - k).filterMap (xs[·]?) := by
    rw [List.filterMap_map]
    congr 1
    funext m
    show xs[(((xs.size : Int) - 1) - (m : Int)).toNat]? = xs[xs.size - 1 - m]?
    rw [show (((xs.size : Int) - 1) - (m : Int)).toNat = xs.size - 1 - m by omega]
  rw [e2, PySem.W.krv_range, List.filterMap_reverse, PySem.W.krv_all]
theorem sliceApplied_rev {sl : Addr} {vl vu vs : Value} {n : Nat} {Q : Int × Int × Nat → Shared → Prop} (hs : s.heap.IsSliceOf sl vl vu vs) (pl : IsPart vl none) (pu : IsPart vu none) (ps : IsPart vs (some (-1)))
    (h : Q ((n : Int) - 1, -1, n) s) : wpAny (model prog w) A (Builtin.Slice.sliceApplied (.ref sl) (pure (n : Int))) Q E s := by
  obtain ⟨os, hos, hcs, hds⟩ := id hs
  unfold Builtin.Slice.sliceApplied Builtin.Slice.sliceFields
  refine wpAny_bind (wpAny_bind (wpAny_field hos hds (x := vl) rfl (wpAny_bind (wpAny_field hos hds (x := vu) rfl (wpAny_bind (wpAny_field hos hds (x := vs) rfl (wpAny_pure ?_)))))))
  refine wpAny_bind (HT.slicePart_ ps ?_)
  show wpAny _ _ (if ((-1 : Int) == 0) = true then _ else _) _ _ s
  rw [if_neg (by decide)]
  refine wpAny_bind (HT.slicePart_ pl (wpAny_bind (HT.slicePart_ pu (wpAny_bind (wpAny_pure ?_)))))
  show wpAny _ _ (match Builtin.Slice.sliceAdjust none none (-1) (n : Int) with | (lo, hi) => pure (lo, (-1 : Int), Builtin.Slice.slicePlaces lo hi (-1))) _ _ s
  rw [adjust_rev n]
  show wpAny _ _ (pure ((n : Int) - 1, (-1 : Int), Builtin.Slice.slicePlaces ((n : Int) - 1) (-1) (-1))) _ _ s
  rw [places_rev]
  exact wpAny_pure h
theorem getItem_tuple_rev {t sl : Addr} {items : Array Value} {vl vu vs : Value} {Q : Value → Shared → Prop} (ht : IsTup s.heap t items) (hs : s.heap.IsSliceOf sl vl vu vs) (pl : IsPart vl none) (pu : IsPart vu none) (ps : IsPart vs (some (-1)))
    (h : Q (.ref s.heap.objs.size) { s with heap := s.heap.push { cls := .type "tuple", data := .seq items.toList.reverse.toArray } })
    (hsz : items.size ≤ sizeLine) : wpAny (model prog w) A (getItem (.ref t) (.ref sl)) Q E s := by
  have htake : sizeOk (.seq items.toList.reverse.toArray) := by
    show items.toList.reverse.toArray.size ≤ sizeLine
    rw [List.size_toArray, List.length_reverse, Array.length_toList]
    exact hsz
  obtain ⟨os, hos, hcs, hds⟩ := id hs
  have hTs : s.TypeIs (.ref sl) "slice" := ⟨os, hos, hcs⟩
  unfold getItem
  try with_reducible refine wpAny_holding ?_
  first | refine wpAny_bind (wpAny_pure ?_) | skip
  refine wpAny_bind (wpAny_sequenceKey ht.typeIs (by decide) ?_)
  refine wpAny_bind (wpAny_callSpecial?_slot (name := Str.ofString "__getitem__") ht.typeIs PyProof.Rows.slot_tuple_getitem
    (wpAny_call_entry PyProof.Rows.slot_tuple_getitem ht.typeIs PyProof.Rows.entry_tuple_getitem ?_ (PyProof.Rows.args_tuple_getitem _ _)))
  show wpAny _ _ (Builtin.Tuple.tupleItemsOf (.ref t) >>= _) _ _ s
  refine wpAny_bind (tupleItemsOf_ ht ?_)
  refine wpAny_bind (wpAny_typeOf hTs ?_)
  rw [if_pos (by decide)]
  refine wpAny_bind (sliceApplied_rev hs pl pu ps ?_)
  have hno : ¬ ((((items.size : Int) - 1) == 0 && (-1 : Int) == 1 && items.size == items.size) = true) := by
    intro q
    rw [Bool.and_eq_true, Bool.and_eq_true] at q
    exact absurd q.1.2 (by decide)
  show wpAny _ _ (if (((items.size : Int) - 1) == 0 && (-1 : Int) == 1 && items.size == items.size) = true then _ else _) _ _ s
  rw [if_neg hno, pick_rev]
  first
    | exact wpAny_bind (m := Builtin.Tuple.tupleExact _) (wpAny_newObj_type (wpAny_pure ⟨_, rfl, wpAny_pure h⟩) htake)
    | exact wpAny_bind (m := Builtin.Tuple.tupleExact _) (wpAny_newObj_type (wpAny_bind (wpAny_pure (wpAny_pure ⟨_, rfl, wpAny_pure h⟩))) htake)
    | exact wpAny_bind (wpAny_bind (m := Builtin.Tuple.tupleExact _) (wpAny_newObj_type (wpAny_pure (wpAny_pure ⟨_, rfl, wpAny_pure h⟩)) htake))
    | exact wpAny_bind (wpAny_bind (m := Builtin.Tuple.tupleExact _) (wpAny_newObj_type (wpAny_pure ⟨_, rfl, wpAny_pure h⟩) htake))
end
section
variable {X : Cx}
def tRevT (K : PySem.W.Frag) (te : TE) : TE := fun σ H Q => te σ H fun x H1 => ∃ a xs, x = .ref a ∧ SqT K H1 a xs ∧ ∀ p, H1 p = none → Q (.ref p) (upd H1 p (.tup xs.reverse))
theorem pe_revT {e : Expr} {te : TE} {k : Nat} {p1 p2 p3 pos : Pos} (he : PE X e te) : PE X (.Subscript e (.Slice none none (some (.UnaryOp .USub (.Constant (.int 1) k p1) p2)) p3) pos) (tRevT X.K te) := by
  refine ⟨fun pins s σ H Q I h => ?_⟩
  refine Subscript_ (thn (he.run pins s σ H _ I h) fun v s1 ⟨x, H1, I1, r1, q1⟩ => ?_)
  obtain ⟨a, xs, ex, hx, q⟩ := q1
  subst ex
  cases r1
  have hst : PO X (some (.UnaryOp .USub (.Constant (.int 1) k p1) p2)) (tPart (tUn (rU fun i => .int (-i)) (tC (.int 1)))) := po_some (pe_un un_neg pe_int)
  refine wpAny_Slice (thn (po_none.run pins s1 σ H1 (fun o H2 => o = none ∧ H2 = H1) I1 ⟨rfl, rfl⟩) fun vl s2 ⟨l, H2, I2, pl, el, e2⟩ => ?_)
  subst el e2
  refine thn (po_none.run pins s2 σ H2 (fun o H3 => o = none ∧ H3 = H2) I2 ⟨rfl, rfl⟩) fun vu s3 ⟨u, H3, I3, pu, eu, e3⟩ => ?_
  subst eu e3
  refine thn (hst.run pins s3 σ H3 (fun o H4 => o = some (-1) ∧ H4 = H3) I3 ⟨1, rfl, -1, rfl, rfl, rfl⟩) fun vs s4 ⟨o, H4, I4, ps, eo, e4⟩ => ?_
  subst eo e4
  have I5 : Inv X pins σ H4 { s4 with heap := s4.heap.push { cls := .type "slice", data := .fields #[vl, vu, vs] } } := I4.kept (t' := s4.toks) fun b ob q => Heap.get?_push_of_some _ q
  obtain ⟨its, r, ht, hz⟩ := I5.tuple hx
  have hlen := r.length
  show wpAny (model X.prog X.w) X.A (subscriptTail e (.Slice none none (some (.UnaryOp .USub (.Constant (.int 1) k p1) p2)) p3) (.ref a) (.ref s4.heap.objs.size)) (EP X pins σ Q) X.xe { s4 with heap := s4.heap.push { cls := .type "slice", data := .fields #[vl, vu, vs] } }
  refine tail_any (ops := [.ref a, .ref s4.heap.objs.size]) ht.typeIs (PyProof.Rows.slot_tuple_getitem.lookup) ?_ (by with_unfolding_all rfl)
  refine getItem_tuple_rev ht (Heap.IsSliceOf.new _ vl vu vs) pl pu ps ?_ (by rw [List.size_toArray]; omega)
  refine ⟨.ref _, _, I5.laid (t' := s4.toks) (o := .tup xs.reverse) (fun b ob q => Heap.get?_push_of_some _ q) (Nat.le_refl _) ?_, rfl, q _ (I5.hok.fresh (Nat.le_refl _))⟩
  exact ⟨by rw [List.length_reverse]; exact hz, its.reverse, r.reverse, by simpa using IsTup.new (s4.heap.push { cls := .type "slice", data := .fields #[vl, vu, vs] }) its.reverse.toArray⟩
/-! t == () -/
def rEqT0 (K : PySem.W.Frag) : L2.R2 := fun x y H Q => ∃ a b xs, x = .ref a ∧ y = .ref b ∧ SqT K H a xs ∧ SqT K H b [] ∧ Q (.bl xs.isEmpty) H
def rNeT0 (K : PySem.W.Frag) : L2.R2 := fun x y H Q => ∃ a b xs, x = .ref a ∧ y = .ref b ∧ SqT K H a xs ∧ SqT K H b [] ∧ Q (.bl (!xs.isEmpty)) H
theorem size_empty {xs : List V} {its : List Value} (r : Vals xs its) : (((List.range (min its.toArray.size (#[] : Array Value).size)).all fun _ => true) && its.toArray.size == (#[] : Array Value).size) = xs.isEmpty := by
  have := r.length
  cases xs with
  | nil => cases r; rfl
  | cons x xs => cases r; rfl
theorem op_eqT0 (hu : X.A.units + 64 < cLine) : OpR X (compareOp .Eq) (rEqT0 X.K) := by
  intro pins s σ H x y v u Q I rx ry h
  obtain ⟨a, b, xs, rfl, rfl, ha, hb, q⟩ := h
  cases rx
  cases ry
  obtain ⟨its, r, ht, _⟩ := I.tuple ha
  obtain ⟨its2, r2, ht2, _⟩ := I.tuple hb
  cases r2
  refine SeqAt.eq_tupleAt (e := fun _ => true) (items := its.toArray) (items2 := #[]) ht (show IsTup s.heap b #[] by simpa using ht2) (by omega) (fun j h1 h2 => absurd h2 (by simp)) ?_
  rw [size_empty r]
  exact ⟨.bl _, H, I, rfl, q⟩
theorem op_neT0 (hu : X.A.units + 64 < cLine) : OpR X (compareOp .NotEq) (rNeT0 X.K) := by
  intro pins s σ H x y v u Q I rx ry h
  obtain ⟨a, b, xs, rfl, rfl, ha, hb, q⟩ := h
  cases rx
  cases ry
  obtain ⟨its, r, ⟨⟨cls, dd, data, sl⟩, ho, hc, n, hd⟩, _⟩ := I.tuple ha
  obtain ⟨its2, r2, ⟨⟨cls2, dd2, data2, sl2⟩, ho2, hc2, n2, hd2⟩, _⟩ := I.tuple hb
  cases r2
  simp only at hc hd hc2 hd2
  subst hc hd hc2 hd2
  refine richCompare_meets_room (op := .NotEq) ⟨_, ho, rfl⟩ ⟨_, ho2, rfl⟩ PySem.F.slot_tuple_ne PySem.F.entry_tuple_ne (PySem.F.args_tuple_ne_2 _ _) (SeqAt.tuple_neAt a b its.toArray #[] n n2 dd dd2 sl sl2 fun _ => true)
    ⟨ho, by simpa using ho2, fun j h1 h2 => absurd h2 (by simp), ?_⟩ (by omega)
  rw [size_empty r]
  exact ⟨(fun x => nomatch x), ⟨.bl _, H, I, rfl, q⟩⟩
end
section
variable {K : Fg}
theorem reps_empty {H : Hp} {M : Mem} {ds : List D} {vs : List V} (r : Reps K H M ds vs) : vs.isEmpty = ds.isEmpty := by
  have := r.length
  cases ds <;> cases vs <;> simp_all
theorem rf_eqT0 : RefR K (rEqT0 K.K) oEqT0 := fun x y H M dx dy Q Q' rx ry m q l => by
  unfold oEqT0 at q
  split at q
  · obtain ⟨a, vs, rfl, h, r⟩ := rx
    obtain ⟨b, us, rfl, h2, r2⟩ := ry
    cases r2
    exact ⟨a, b, vs, rfl, rfl, h.sq, h2.sq, by rw [reps_empty r]; exact finB l m q⟩
  · exact q.elim
theorem rf_neT0 : RefR K (rNeT0 K.K) oNeT0 := fun x y H M dx dy Q Q' rx ry m q l => by
  unfold oNeT0 at q
  split at q
  · obtain ⟨a, vs, rfl, h, r⟩ := rx
    obtain ⟨b, us, rfl, h2, r2⟩ := ry
    cases r2
    exact ⟨a, b, vs, rfl, rfl, h.sq, h2.sq, by rw [reps_empty r]; exact finB l m q⟩
  · exact q.elim
theorem reps_rev {H : Hp} {M : Mem} : ∀ {ds : List D} {vs : List V}, Reps K H M ds vs → Reps K H M ds.reverse vs.reverse
  | [], _, h => by cases h; exact rfl
  | d :: ds, _, ⟨v, r, e, h, q⟩ => by
    subst e
    rw [List.reverse_cons, List.reverse_cons]
    exact (reps_rev q).snoc h
theorem ref_rev {te : TE} {t : DE} (h1 : Ref K te t) : Ref K (tRevT K.K te) (dUn oRev t) := fun σ H ρ M Q Q' s q l =>
  h1 σ H ρ M _ _ s q fun v H1 d M1 f1 r1 m1 q1 => by
    unfold oRev at q1
    split at q1
    · obtain ⟨a, vs, rfl, h, r⟩ := r1
      exact ⟨a, vs, rfl, h.sq, fun p hp => l _ _ _ _ (f1.trans (Fr.new hp)) (rep_newT m1 hp (reps_rev r)) (m1.new hp) q1⟩
    · exact q1.elim
theorem ref_dict0 : Ref K tDNewK dDict0 := fun σ H ρ M Q Q' s q l => fun p hp =>
  l _ _ (.dK [] []) _ (Fr.new hp) ⟨p, [], rfl, ⟨upd_same, s.mem.free hp, s.mem.nprv hp⟩, rfl, rfl⟩ (s.mem.new hp) q
theorem ref_callD {n : Nat} {sp : Spec} {tA : TA} {dA' : DA} {j : Nat} {dd : List D} {dvs : List V} (h : RefA K j tA dA') (hj : j + dd.length = n) (hd : ∀ H M, Reps K H M dd dvs) : Ref K (tCall (toSp K.K n sp) dvs E0 tA) (dCallD sp dd dA') := fun σ H ρ M Q Q' s q l =>
  h σ H ρ M _ _ s q fun vs H1 ds M1 f1 r1 n1 m1 q1 => ⟨K.P, ds ++ dd, M1, r1.append (hd H1 M1), by rw [List.length_append, n1, hj], m1, q1.1, fun d M' hp v H' f r m => l v H' d M' (f1.trans f) r m (q1.2 d M' hp)⟩
end
section
variable {X : Cx} {pos : Pos} {k : Nat}
theorem re_rev {e : Expr} {te : TE} {t : DE} {j : Nat} {p1 p2 p3 : Pos} (K0 : PySem.W.Frag) (h : RE X e te t) (hK : X.K = K0 := by rfl) : RE X (.Subscript e (.Slice none none (some (.UnaryOp .USub (.Constant (.int 1) j p1) p2)) p3) pos) (tRevT K0 te) (dUn oRev t) := by
  subst hK
  exact ⟨pe_revT h.pe, fun P => ref_rev (K := ⟨X.K, P⟩) (h.rf P)⟩
theorem c_eqT0 (K0 : PySem.W.Frag) (hr : Room k X.A) (hK : X.K = K0 := by rfl) : CM X .Eq (rEqT0 K0) oEqT0 := by
  subst hK
  exact ⟨op_eqT0 hr.units, fun P => rf_eqT0⟩
theorem c_neT0 (K0 : PySem.W.Frag) (hr : Room k X.A) (hK : X.K = K0 := by rfl) : CM X .NotEq (rNeT0 K0) oNeT0 := by
  subst hK
  exact ⟨op_neT0 hr.units, fun P => rf_neT0⟩
theorem re_dict0 : RE X (.Dict [] [] pos) tDNewK dDict0 := ⟨pe_dnewK, fun P => ref_dict0⟩
end
def dv0 : D → V
  | .bl b => .bl b
  | .int i => .int i
  | .str x => .str x
  | _ => .non
/-- a def that is called with j of its n arguments, the others its own -/
def FnD (P : Program) (w : World) (K : PySem.W.Frag) (mg : Str → Option Value) (base : Heap) (k : Nat) (x : Str) (n : Nat) (dd : List D) (sp : Spec) : Prop :=
  ∃ (f : Addr) (fd : FuncData) (ps : List Str) (ds : List Value), FnOk P w K mg base CX0 k f fd ps (toSp K n sp) ∧ mg x = some (.ref f) ∧ PySem.W.keepIn K (.ref f) = true ∧ Binds K fd ps ds ∧ Vals (dd.map dv0) ds ∧ ∀ Pr H M, Reps ⟨K, Pr⟩ H M dd (dd.map dv0)
theorem FnD.mono {P : Program} {w : World} {K : PySem.W.Frag} {mg : Str → Option Value} {base : Heap} {j k : Nat} {x : Str} {n : Nat} {dd : List D} {sp : Spec} (c : FnD P w K mg base j x n dd sp) (h : j ≤ k) : FnD P w K mg base k x n dd sp := by
  obtain ⟨f, fd, ps, ds, h1, h2⟩ := c
  exact ⟨f, fd, ps, ds, h1.mono h, h2⟩
theorem re_fnD {X : Cx} {p pos : Pos} {e : Expr} {es : List Expr} {tA : TA} {dA' : DA} {k n : Nat} {sp : Spec} {dd : List D} {x : Str} (K0 : PySem.W.Frag) (c : FnD X.prog X.w X.K X.mg X.base k x n dd sp) (hr : Room k X.A) (hg : Gl X x)
    (h : RA X (e :: es) tA dA') (hn : (e :: es).length + dd.length = n := by rfl) (hdb : (x == ("__debug__" : Str)) = false := by decide) (he : starEach (e :: es) X.env = (false, eval e X.env) :: starEach es X.env := by rfl) (hpl : (backTo pos (starEach es X.env)).any (·.1) = false := by rfl) (hK : X.K = K0 := by rfl) :
    RE X (.Call (.Name x p) (e :: es) [] pos) (tCall (toSp K0 n sp) (dd.map dv0) E0 tA) (dCallD sp dd dA') := by
  subst hK
  obtain ⟨f, fd, ps, ds, h1, h2, h3, h4, h5, h6⟩ := c
  exact ⟨pe_call h1 hr hg h2 h3 h4 h5 pass0 h.pa hdb he hpl, fun P => ref_callD (K := ⟨X.K, P⟩) (h.rf P) hn (h6 P)⟩
end DL
namespace DL
open PySem
/-! ### texts -/
theorem strOk_of (s : String) : strOk (Str.ofString s) = true := by
  unfold strOk
  rw [Str.ofString_eq_toList]
  show ((s.toList.map Char.toNat).toArray).all _ = true
  rw [List.all_toArray, List.all_eq_true]
  intro x hx
  obtain ⟨c, _, rfl⟩ := List.mem_map.mp hx
  have h := c.valid
  simp only [UInt32.isValidChar, Nat.isValidChar] at h
  have e : c.toNat = c.val.toNat := rfl
  rw [e, decide_eq_true_eq]
  omega
theorem strOk_add {a b : Str} (h1 : strOk a = true) (h2 : strOk b = true) : strOk (a ++ b) = true := by
  unfold strOk at *
  show (a.cps ++ b.cps).all _ = true
  rw [Array.all_append, h1, h2]
  rfl
/-- a text that is short -/
def nmOk (x : Str) : Bool := strOk x && decide (x.length ≤ 100)
theorem nm_str {x : Str} (h : nmOk x = true) : strOk x = true := by
  simp only [nmOk, Bool.and_eq_true] at h
  exact h.1
theorem nm_len {x : Str} (h : nmOk x = true) : x.length ≤ 100 := by
  simp only [nmOk, Bool.and_eq_true, decide_eq_true_eq] at h
  exact h.2
theorem nm_of (s : String) (h : (Str.ofString s).length ≤ 100 := by decide +kernel) : nmOk (Str.ofString s) = true := by
  simp [nmOk, strOk_of, h]
/-! ### sayings -/
inductive Say where
  | name (x : Str) | made (h : Str) (ps : List Say) | call (h : Str) (ps : List Say) | either (a b : Say) | same (a b : Say) | skip
mutual
def Say.d : Say → D
  | .name x => .tup [.str "name", .str x]
  | .made h ps => .tup [.str "made", .str h, .tup (says ps)]
  | .call h ps => .tup [.str "call", .str h, .tup (says ps)]
  | .either a b => .tup [.str "either", a.d, b.d]
  | .same a b => .tup [.str "same", a.d, b.d]
  | .skip => .tup [.str "skip"]
def says : List Say → List D
  | [] => []
  | s :: r => s.d :: says r
end
theorem says_length : ∀ ps : List Say, (says ps).length = ps.length
  | [] => rfl
  | _ :: r => by simp only [says, List.length_cons, says_length r]
mutual
theorem Say.d_inj : ∀ {s t : Say}, s.d = t.d → s = t
  | .name x, t, h => by cases t <;> simp_all [Say.d, ofString_inj]
  | .skip, t, h => by cases t <;> simp_all [Say.d, ofString_inj]
  | .made x ps, t, h => by
    cases t <;> simp [Say.d, ofString_inj] at h
    rw [h.1, says_inj h.2]
  | .call x ps, t, h => by
    cases t <;> simp [Say.d, ofString_inj] at h
    rw [h.1, says_inj h.2]
  | .either a b, t, h => by
    cases t <;> simp [Say.d, ofString_inj] at h
    rw [Say.d_inj h.1, Say.d_inj h.2]
  | .same a b, t, h => by
    cases t <;> simp [Say.d, ofString_inj] at h
    rw [Say.d_inj h.1, Say.d_inj h.2]
theorem says_inj : ∀ {ss ts : List Say}, says ss = says ts → ss = ts
  | [], [], _ => rfl
  | [], _ :: _, h => by simp [says] at h
  | _ :: _, [], h => by simp [says] at h
  | s :: ss, t :: ts, h => by
    simp only [says, List.cons.injEq] at h
    rw [Say.d_inj h.1, says_inj h.2]
end
theorem one_inj {s t : Say} (h : [s.d] = [t.d]) : t = s := (Say.d_inj (List.cons.inj h).1).symm
def Say.parts : Say → List Say
  | .made _ ps => ps
  | .call _ ps => ps
  | .either a b => [a, b]
  | .same a b => [a, b]
  | _ => []
mutual
/-- how many nodes stand within one another -/
def Say.deep : Say → Nat
  | .name _ => 1
  | .skip => 1
  | .made _ ps => deeps ps + 1
  | .call _ ps => deeps ps + 1
  | .either a b => max a.deep b.deep + 1
  | .same a b => max a.deep b.deep + 1
def deeps : List Say → Nat
  | [] => 0
  | s :: r => max s.deep (deeps r)
end
mutual
def Say.size : Say → Nat
  | .name _ => 1
  | .skip => 1
  | .made _ ps => sizes ps + 1
  | .call _ ps => sizes ps + 1
  | .either a b => a.size + b.size + 1
  | .same a b => a.size + b.size + 1
def sizes : List Say → Nat
  | [] => 0
  | s :: r => s.size + sizes r
end
mutual
/-- texts are texts, three parts at most -/
def Say.ok : Say → Bool
  | .name x => nmOk x
  | .skip => true
  | .made h ps => nmOk h && decide (ps.length ≤ 3) && oks ps
  | .call h ps => nmOk h && decide (ps.length ≤ 3) && oks ps
  | .either a b => a.ok && b.ok
  | .same a b => a.ok && b.ok
def oks : List Say → Bool
  | [] => true
  | s :: r => s.ok && oks r
end
/-- how many nodes there may be -/
def Z : Nat → Nat
  | 0 => 0
  | n + 1 => 3 * Z n + 1
theorem Z_mono {m n : Nat} (h : m ≤ n) : Z m ≤ Z n := by
  induction n generalizing m with
  | zero => rw [Nat.le_zero.mp h]; exact Nat.le_refl _
  | succ n ih =>
    cases m with
    | zero => exact Nat.zero_le _
    | succ m =>
      have := ih (Nat.le_of_succ_le_succ h)
      simp only [Z]
      omega
mutual
theorem size_le : ∀ s : Say, s.ok = true → s.size ≤ Z s.deep
  | .name _, _ => by simp [Say.size, Say.deep, Z]
  | .skip, _ => by simp [Say.size, Say.deep, Z]
  | .made h ps, o => by
    simp only [Say.ok, Bool.and_eq_true, decide_eq_true_eq] at o
    have := sizes_le ps o.2
    simp only [Say.size, Say.deep, Z]
    have h2 : ps.length * Z (deeps ps) ≤ 3 * Z (deeps ps) := Nat.mul_le_mul_right _ o.1.2
    omega
  | .call h ps, o => by
    simp only [Say.ok, Bool.and_eq_true, decide_eq_true_eq] at o
    have := sizes_le ps o.2
    simp only [Say.size, Say.deep, Z]
    have h2 : ps.length * Z (deeps ps) ≤ 3 * Z (deeps ps) := Nat.mul_le_mul_right _ o.1.2
    omega
  | .either a b, o => by
    simp only [Say.ok, Bool.and_eq_true] at o
    have h1 := size_le a o.1
    have h2 := size_le b o.2
    have z1 := Z_mono (Nat.le_max_left a.deep b.deep)
    have z2 := Z_mono (Nat.le_max_right a.deep b.deep)
    simp only [Say.size, Say.deep, Z]
    omega
  | .same a b, o => by
    simp only [Say.ok, Bool.and_eq_true] at o
    have h1 := size_le a o.1
    have h2 := size_le b o.2
    have z1 := Z_mono (Nat.le_max_left a.deep b.deep)
    have z2 := Z_mono (Nat.le_max_right a.deep b.deep)
    simp only [Say.size, Say.deep, Z]
    omega
theorem sizes_le : ∀ ps : List Say, oks ps = true → sizes ps ≤ ps.length * Z (deeps ps)
  | [], _ => by simp [sizes]
  | s :: r, o => by
    simp only [oks, Bool.and_eq_true] at o
    have h1 := size_le s o.1
    have h2 := sizes_le r o.2
    have z1 := Z_mono (Nat.le_max_left s.deep (deeps r))
    have z2 := Z_mono (Nat.le_max_right s.deep (deeps r))
    simp only [sizes, deeps, List.length_cons]
    have h3 : r.length * Z (deeps r) ≤ r.length * Z (max s.deep (deeps r)) := Nat.mul_le_mul_left _ z2
    rw [Nat.add_mul]
    omega
end
theorem size_of {s : Say} {n : Nat} (o : s.ok = true) (h : s.deep ≤ n) : s.size ≤ Z n := Nat.le_trans (size_le s o) (Z_mono h)
theorem oks_parts {s : Say} (o : s.ok = true) : oks s.parts = true := by
  cases s <;> simp_all [Say.ok, Say.parts, oks]
theorem parts3 {s : Say} (o : s.ok = true) : s.parts.length ≤ 3 := by
  cases s <;> simp_all [Say.ok, Say.parts]
theorem deep_parts (s : Say) : deeps s.parts + 1 = s.deep := by
  cases s <;> simp [Say.parts, Say.deep, deeps]
theorem size_parts (s : Say) : sizes s.parts + 1 = s.size := by
  cases s <;> simp [Say.parts, Say.size, sizes]
  all_goals omega
theorem deeps_cons (s : Say) (r : List Say) : deeps (s :: r) = max s.deep (deeps r) := by simp [deeps]
mutual
/-- data of a saying may be compared -/
theorem plain_d : ∀ s : Say, s.ok = true → plain s.d = true
  | .name x, o => by simp only [Say.ok] at o; simp [Say.d, plain, plains, strOk_of, nm_str o]
  | .skip, _ => by simp [Say.d, plain, plains, strOk_of]
  | .made h ps, o => by
    simp only [Say.ok, Bool.and_eq_true] at o
    simp [Say.d, plain, plains, strOk_of, nm_str o.1.1, plains_d ps o.2]
  | .call h ps, o => by
    simp only [Say.ok, Bool.and_eq_true] at o
    simp [Say.d, plain, plains, strOk_of, nm_str o.1.1, plains_d ps o.2]
  | .either a b, o => by
    simp only [Say.ok, Bool.and_eq_true] at o
    simp [Say.d, plain, plains, strOk_of, plain_d a o.1, plain_d b o.2]
  | .same a b, o => by
    simp only [Say.ok, Bool.and_eq_true] at o
    simp [Say.d, plain, plains, strOk_of, plain_d a o.1, plain_d b o.2]
theorem plains_d : ∀ ps : List Say, oks ps = true → plains (says ps) = true
  | [], _ => by simp [says, plains]
  | s :: r, o => by
    simp only [oks, Bool.and_eq_true] at o
    simp [says, plains, plain_d s o.1, plains_d r o.2]
end
mutual
theorem depth_d : ∀ s : Say, depth s.d ≤ 2 * s.deep + 1
  | .name x => by simp [Say.d, depth, depths, Say.deep]
  | .skip => by simp [Say.d, depth, depths, Say.deep]
  | .made h ps => by
    have := depths_d ps
    simp only [Say.d, depth, depths, Say.deep]
    omega
  | .call h ps => by
    have := depths_d ps
    simp only [Say.d, depth, depths, Say.deep]
    omega
  | .either a b => by
    have h1 := depth_d a
    have h2 := depth_d b
    simp only [Say.d, depth, depths, Say.deep]
    omega
  | .same a b => by
    have h1 := depth_d a
    have h2 := depth_d b
    simp only [Say.d, depth, depths, Say.deep]
    omega
theorem depths_d : ∀ ps : List Say, depths (says ps) ≤ 2 * deeps ps + 1
  | [] => by simp [says, depths]
  | s :: r => by
    have h1 := depth_d s
    have h2 := depths_d r
    simp only [says, depths, deeps]
    omega
end
end DL
section
namespace DL
open PySem
def g_LETTERS : D := (.str "abcdefghijklmnopqrstuvwxyz")
def g_FIGURES : D := (.str "0123456789")
def g_TAKEN : D := (.tup [(.str "kind"), (.str "def"), (.str "either"), (.str "same"), (.str "truth")])
def g_MOST_LETTERS : D := (.int 8)
def g_MOST_FIGURES : D := (.int 3)
def g_MOST_PARTS : D := (.int 3)
def t_is_made_of : DS :=
  (sRet (dAndV (dUn (oIsi "str") (dV 0)) (dAndV (dChain oLe oLe (dC (.int 1)) (dUn oLen (dV 0)) (dV 2)) (dUn oAll (dComp (iSeq (dV 0)) (gName 3) dYes (dOp oIn (dV 3) (dV 1)) [3])))))
def t_is_word (sp_is_made_of : Spec) : DS :=
  (sRet (dAndV (dCall sp_is_made_of (dA (dV 0) (dA (dC g_LETTERS) (dA (dC g_MOST_LETTERS) dA0)))) (dOp oNotIn (dV 0) (dC g_TAKEN))))
def t_is_new_name (sp_is_made_of : Spec) : DS :=
  (sRet (dAndV (dCall sp_is_made_of (dA (dV 0) (dA (dC g_FIGURES) (dA (dC g_MOST_FIGURES) dA0)))) (dOp oNe (dOp oIx (dV 0) (dC (.int 0))) (dC (.str "0")))))
def t_is_row : DS :=
  (sRet (dAndV (dUn (oIsi "tuple") (dV 0)) (dChain oLe oLe (dV 2) (dUn oLen (dV 0)) (dV 1))))
def t_is_headed (sp_is_row : Spec) : DS :=
  (sRet (dAndV (dCall sp_is_row (dA (dV 0) (dA (dV 2) (dA (dV 2) dA0)))) (dAndV (dUn (oIsi "str") (dOp oIx (dV 0) (dC (.int 0)))) (dOp oEq (dOp oIx (dV 0) (dC (.int 0))) (dV 1)))))
def t_is_named (sp_is_headed : Spec) (sp_is_word : Spec) (sp_is_new_name : Spec) : DS :=
  (sRet (dAndV (dCall sp_is_headed (dA (dV 0) (dA (dC (.str "name")) (dA (dC (.int 2)) dA0)))) (dOrV (dCall sp_is_word (dA (dOp oIx (dV 0) (dC (.int 1))) dA0)) (dCall sp_is_new_name (dA (dOp oIx (dV 0) (dC (.int 1))) dA0)))))
def t_is_built (sp_is_headed : Spec) (sp_is_word : Spec) (sp_is_row : Spec) : DS :=
  (sRet (dAndV (dCall sp_is_headed (dA (dV 0) (dA (dV 1) (dA (dC (.int 3)) dA0)))) (dAndV (dCall sp_is_word (dA (dOp oIx (dV 0) (dC (.int 1))) dA0)) (dCallD sp_is_row [.int 0] (dA (dOp oIx (dV 0) (dC (.int 2))) (dA (dC g_MOST_PARTS) dA0))))))
def t_is_saying (sp_is_headed : Spec) (sp_is_saying : Spec) (sp_is_built : Spec) (sp_is_named : Spec) : DS :=
  (sSeq (sIf (dOr (dTest (dCall sp_is_named (dA (dV 0) dA0))) (dTest (dCall sp_is_headed (dA (dV 0) (dA (dC (.str "skip")) (dA (dC (.int 1)) dA0)))))) (sRet (dC (.bl true))) sNext)
  (sSeq (sIf (dOr (dTest (dCall sp_is_built (dA (dV 0) (dA (dC (.str "made")) dA0)))) (dTest (dCall sp_is_built (dA (dV 0) (dA (dC (.str "call")) dA0))))) (sRet (dUn oAll (dComp (iSeq (dOp oIx (dV 0) (dC (.int 2)))) (gName 1) dYes (dCall sp_is_saying (dA (dV 1) dA0)) [1]))) sNext)
  (sSeq (sIf (dOr (dTest (dCall sp_is_headed (dA (dV 0) (dA (dC (.str "either")) (dA (dC (.int 3)) dA0))))) (dTest (dCall sp_is_headed (dA (dV 0) (dA (dC (.str "same")) (dA (dC (.int 3)) dA0)))))) (sRet (dAndV (dCall sp_is_saying (dA (dOp oIx (dV 0) (dC (.int 1))) dA0)) (dCall sp_is_saying (dA (dOp oIx (dV 0) (dC (.int 2))) dA0)))) sNext)
  (sRet (dC (.bl false))))))
def t_is_thing (sp_is_named : Spec) (sp_is_built : Spec) (sp_is_thing : Spec) : DS :=
  (sSeq (sIf (dTest (dCall sp_is_built (dA (dV 0) (dA (dC (.str "made")) dA0)))) (sRet (dUn oAll (dComp (iSeq (dOp oIx (dV 0) (dC (.int 2)))) (gName 1) dYes (dCall sp_is_thing (dA (dV 1) dA0)) [1]))) sNext)
  (sRet (dCall sp_is_named (dA (dV 0) dA0))))
def t_is_plain (sp_is_built : Spec) (sp_is_plain : Spec) : DS :=
  (sRet (dAndV (dCall sp_is_built (dA (dV 0) (dA (dC (.str "made")) dA0))) (dUn oAll (dComp (iSeq (dOp oIx (dV 0) (dC (.int 2)))) (gName 1) dYes (dCall sp_is_plain (dA (dV 1) dA0)) [1]))))
def t__law_deck : DS :=
  (sSeq (sAsg (dNew dA0) (gName 1))
  (sSeq (sAsg (dNew (dA (dUn oLen (dV 0)) dA0)) (gName 2))
  (sSeq (sFor (iSeq (dCut (dV 0) dNoPart (dPart (dC (.int 63))))) (gName 3) (sSeq (sAsg (dUn oAbs (dV 3)) (gName 3))
  (sSeq (sExpr (dMeth mAppend (dV 2) (dOp oMod (dV 3) (dC (.int 2147483629)))))
  (sWhile (dAnd (dTest (dOp oGe (dV 3) (dOp oPow (dC (.int 10)) (dC (.int 18))))) (dTest (dOp oLt (dUn oLen (dV 1)) (dC (.int 900))))) (sSeq (sExpr (dMeth mAppend (dV 1) (dOp oMod (dV 3) (dC (.int 2147483629)))))
  (sAsg (dOp oFdiv (dV 3) (dC (.int 2147483629))) (gName 3)))))))
  (sRet (dNew (dA (dV 1) (dA (dV 2) (dA (dC (.int 0)) dA0))))))))
def t__law_next : DS :=
  (sSeq (sIf (dTest (dOp oNe (dOp oIx (dV 0) (dC (.int 0))) (dLst dA0))) (sRet (dMeth mPopAt (dOp oIx (dV 0) (dC (.int 0))) (dC (.int 0)))) sNext)
  (sSeq (sAsg (dOp oIx (dV 0) (dC (.int 2))) (gName 1))
  (sSeq (sAsg (dOp oAdd (dV 1) (dC (.int 1))) (gSub (dV 0) (dC (.int 2))))
  (sSeq (sAsg (dOp oAdd (dOp oIx (dOp oIx (dV 0) (dC (.int 1))) (dOp oMod (dOp oAdd (dV 1) (dC (.int 1))) (dUn oLen (dOp oIx (dV 0) (dC (.int 1)))))) (dOp oMul (dC (.int 7)) (dV 1))) (gName 2))
  (sRet (dOp oMod (dOp oAdd (dOp oMod (dOp oPow (dOp oAdd (dV 2) (dOp oMul (dC (.int 48271)) (dOp oAdd (dV 1) (dC (.int 1))))) (dC (.int 5))) (dC (.int 2147483647))) (dOp oMul (dC (.int 69621)) (dV 2))) (dC (.int 2147483629))))))))
def t__law_letters (sp__law_next : Spec) : DS :=
  (sSeq (sAsg (dCall sp__law_next (dA (dV 0) dA0)) (gName 2))
  (sSeq (sAsg (dC (.str "")) (gName 3))
  (sSeq (sFor (iRange (dOp oAdd (dC (.int 1)) (dOp oMod (dV 2) (dV 1)))) (gName 4) (sAsg (dOp oAdd (dV 3) (dOp oIx (dC (.str "abcdefghijklmnopqrstuvwxyz")) (dOp oMod (dCall sp__law_next (dA (dV 0) dA0)) (dC (.int 26))))) (gName 3)))
  (sRet (dV 3)))))
def t__law_name (sp__law_letters : Spec) (sp__law_next : Spec) : DS :=
  (sSeq (sAsg (dCall sp__law_next (dA (dV 0) dA0)) (gName 1))
  (sSeq (sAsg (dLst (dA (dC (.str "a")) (dA (dC (.str "b")) (dA (dC (.str "ab")) (dA (dC (.str "ba")) (dA (dC (.str "kin")) (dA (dC (.str "sam")) (dA (dC (.str "eithers")) (dA (dC (.str "yes")) dA0))))))))) (gName 2))
  (sSeq (sIf (dTest (dOp oLt (dOp oMod (dV 1) (dC (.int 8))) (dC (.int 4)))) (sRet (dOp oIx (dV 2) (dOp oMod (dOp oFdiv (dV 1) (dC (.int 8))) (dC (.int 8))))) sNext)
  (sSeq (sIf (dTest (dOp oEq (dOp oMod (dV 1) (dC (.int 8))) (dC (.int 4)))) (sRet (dUn oStr (dOp oAdd (dC (.int 1)) (dOp oMod (dOp oFdiv (dV 1) (dC (.int 8))) (dC (.int 999)))))) sNext)
  (sSeq (sAsg (dCall sp__law_letters (dA (dV 0) (dA (dC (.int 8)) dA0))) (gName 3))
  (sRet (dOp oIx (dLst (dA (dV 3) (dA (dC (.str "z")) dA0))) (dUn oInt (dOp oIn (dV 3) (dLst (dA (dC (.str "kind")) (dA (dC (.str "def")) (dA (dC (.str "either")) (dA (dC (.str "same")) (dA (dC (.str "truth")) dA0)))))))))))))))
def t__law_any_3 (sp__law_any : Spec) (sp__law_name : Spec) (sp__law_next : Spec) : DS :=
  (sSeq (sIf (dTest (dOp oEq (dV 4) (dC (.str "skip")))) (sRet (dTup (dA (dC (.str "skip")) dA0))) sNext)
  (sSeq (sIf (dTest (dOp oEq (dV 4) (dC (.str "name")))) (sRet (dTup (dA (dC (.str "name")) (dA (dCall sp__law_name (dA (dV 0) dA0)) dA0)))) sNext)
  (sSeq (sIf (dTest (dOp oIn (dV 4) (dLst (dA (dC (.str "either")) (dA (dC (.str "same")) dA0))))) (sSeq (sAsg (dCall sp__law_any (dA (dV 0) (dA (dV 1) (dA (dOp oSub (dV 2) (dC (.int 1))) dA0)))) (gName 5))
  (sRet (dTup (dA (dV 4) (dA (dV 5) (dA (dCall sp__law_any (dA (dV 0) (dA (dV 1) (dA (dOp oSub (dV 2) (dC (.int 1))) dA0)))) dA0)))))) sNext)
  (sSeq (sAsg (dOp oMul (dOp oIx (dLst (dA (dC (.int 0)) (dA (dC (.int 1)) (dA (dC (.int 1)) (dA (dC (.int 2)) (dA (dC (.int 2)) (dA (dC (.int 3)) dA0))))))) (dOp oMod (dOp oFdiv (dV 3) (dC (.int 16))) (dC (.int 6)))) (dUn oInt (dOp oGt (dV 2) (dC (.int 1))))) (gName 6))
  (sSeq (sAsg (dOp oIx (dLst (dA (dC (.str "yes")) (dA (dC (.str "no")) (dA (dC (.str "nought")) (dA (dC (.str "next")) (dA (dC (.str "pair")) (dA (dC (.str "leaf")) (dA (dC (.str "plus")) dA0)))))))) (dOp oMod (dOp oFdiv (dV 3) (dC (.int 96))) (dC (.int 7)))) (gName 7))
  (sRet (dTup (dA (dV 4) (dA (dV 7) (dA (dUn oTuple (dComp (iRange (dV 6)) (gName 8) dYes (dCall sp__law_any (dA (dV 0) (dA (dV 1) (dA (dOp oSub (dV 2) (dC (.int 1))) dA0)))) [8])) dA0))))))))))
def t__law_any (sp__law_any : Spec) (sp__law_name : Spec) (sp__law_next : Spec) : DS :=
  (sSeq (sAsg (dCall sp__law_next (dA (dV 0) dA0)) (gName 3))
  (sSeq (sAsg (dOp oIx (dV 1) (dOp oMod (dV 3) (dUn oLen (dV 1)))) (gName 4))
  (sSeq (sIf (dAnd (dTest (dOp oLt (dV 2) (dC (.int 2)))) (dTest (dOp oNotIn (dV 4) (dLst (dA (dC (.str "name")) (dA (dC (.str "skip")) dA0)))))) (sAsg (dOp oIx (dLst (dA (dC (.str "name")) (dA (dC (.str "made")) dA0))) (dUn oInt (dOrV (dOp oNotIn (dC (.str "name")) (dV 1)) (dOp oEq (dOp oMod (dOp oFdiv (dV 3) (dC (.int 8))) (dC (.int 2))) (dC (.int 0)))))) (gName 4)) sNext)
  (t__law_any_3 sp__law_any sp__law_name sp__law_next))))
def t__law_is_word : DS :=
  (sSeq (sIf (dOr (dNot (dTest (dUn (oIsi "str") (dV 0)))) (dNot (dTest (dChain oLe oLe (dC (.int 1)) (dUn oLen (dV 0)) (dC (.int 8)))))) (sRet (dC (.bl false))) sNext)
  (sSeq (sIf (dTest (dOp oIn (dV 0) (dLst (dA (dC (.str "kind")) (dA (dC (.str "def")) (dA (dC (.str "either")) (dA (dC (.str "same")) (dA (dC (.str "truth")) dA0)))))))) (sRet (dC (.bl false))) sNext)
  (sRet (dOp oEq (dComp (iSeq (dV 0)) (gName 1) (dTest (dOp oNotIn (dV 1) (dC (.str "abcdefghijklmnopqrstuvwxyz")))) (dV 1) [1]) (dLst dA0)))))
def t__law_is_new : DS :=
  (sSeq (sIf (dOr (dNot (dTest (dUn (oIsi "str") (dV 0)))) (dOr (dNot (dTest (dChain oLe oLe (dC (.int 1)) (dUn oLen (dV 0)) (dC (.int 3))))) (dTest (dOp oEq (dOp oIx (dV 0) (dC (.int 0))) (dC (.str "0")))))) (sRet (dC (.bl false))) sNext)
  (sRet (dOp oEq (dComp (iSeq (dV 0)) (gName 1) (dTest (dOp oNotIn (dV 1) (dC (.str "0123456789")))) (dV 1) [1]) (dLst dA0))))
def t__law_is (sp__law_is : Spec) (sp__law_is_word : Spec) (sp__law_is_new : Spec) : DS :=
  (sSeq (sIf (dOr (dNot (dTest (dUn (oIsi "tuple") (dV 0)))) (dOr (dTest (dOp oEqT0 (dV 0) (dTup dA0))) (dOr (dNot (dTest (dUn (oIsi "str") (dOp oIx (dV 0) (dC (.int 0)))))) (dTest (dOp oNotIn (dOp oIx (dV 0) (dC (.int 0))) (dV 1)))))) (sRet (dC (.bl false))) sNext)
  (sSeq (sIf (dTest (dOp oEq (dOp oIx (dV 0) (dC (.int 0))) (dC (.str "skip")))) (sRet (dOp oEq (dUn oLen (dV 0)) (dC (.int 1)))) sNext)
  (sSeq (sIf (dTest (dOp oEq (dOp oIx (dV 0) (dC (.int 0))) (dC (.str "name")))) (sRet (dAndV (dOp oEq (dUn oLen (dV 0)) (dC (.int 2))) (dOrV (dCall sp__law_is_word (dA (dOp oIx (dV 0) (dC (.int 1))) dA0)) (dCall sp__law_is_new (dA (dOp oIx (dV 0) (dC (.int 1))) dA0))))) sNext)
  (sSeq (sIf (dTest (dOp oNe (dUn oLen (dV 0)) (dC (.int 3)))) (sRet (dC (.bl false))) sNext)
  (sSeq (sIf (dTest (dOp oIn (dOp oIx (dV 0) (dC (.int 0))) (dLst (dA (dC (.str "either")) (dA (dC (.str "same")) dA0))))) (sRet (dAndV (dCall sp__law_is (dA (dOp oIx (dV 0) (dC (.int 1))) (dA (dV 1) dA0))) (dCall sp__law_is (dA (dOp oIx (dV 0) (dC (.int 2))) (dA (dV 1) dA0))))) sNext)
  (sSeq (sIf (dOr (dNot (dTest (dCall sp__law_is_word (dA (dOp oIx (dV 0) (dC (.int 1))) dA0)))) (dOr (dNot (dTest (dUn (oIsi "tuple") (dOp oIx (dV 0) (dC (.int 2)))))) (dTest (dOp oGt (dUn oLen (dOp oIx (dV 0) (dC (.int 2)))) (dC (.int 3)))))) (sRet (dC (.bl false))) sNext)
  (sRet (dUn oAll (dComp (iSeq (dOp oIx (dV 0) (dC (.int 2)))) (gName 2) dYes (dCall sp__law_is (dA (dV 2) (dA (dV 1) dA0))) [2])))))))))
def t__law_odd : DS :=
  (sSeq (sAsg (dLst (dA (dC .non) (dA (dC (.bl true)) (dA (dC (.bl false)) (dA (dC (.int 0)) (dA (dC (.int 1)) (dA (dUn oNeg (dC (.int 1))) (dA (dOp oPow (dC (.int 10)) (dC (.int 40))) (dA (dC (.str "")) (dA (dC (.str "a")) (dA (dC (.str "skip")) (dA (dC (.str "name")) (dA (dC (.str "made")) (dA (dTup dA0) (dA (dLst dA0) (dA dDict0 (dA (dTup (dA (dC (.str "skip")) dA0)) dA0))))))))))))))))) (gName 1))
  (sSeq (sAsg (dOp oAdd (dV 1) (dLst (dA (dTup (dA (dC (.str "made")) (dA (dC (.str "yes")) (dA (dTup dA0) dA0)))) (dA (dTup (dA (dC (.str "name")) (dA (dC (.int 1)) dA0))) (dA (dC (.str "truth")) (dA (dC (.str "same")) (dA (dC (.str "0")) (dA (dC (.str "007")) (dA (dC (.str "1000")) (dA (dC (.str "Ab")) (dA (dC (.str "abcdefghi")) (dA (dTup (dA (dTup dA0) dA0)) dA0)))))))))))) (gName 1))
  (sSeq (sAsg (dOp oAdd (dV 1) (dLst (dA (dTup (dA (dC (.str "name")) (dA (dC (.str "b")) dA0))) (dA (dTup (dA (dC (.str "name")) dA0)) (dA (dTup (dA (dC (.str "made")) (dA (dC (.str "a")) (dA (dLst (dA (dC (.str "b")) dA0)) dA0)))) (dA (dTup (dA (dC (.str "call")) (dA (dC (.str "a")) (dA (dTup dA0) dA0)))) (dA (dTup (dA (dC (.str "skip")) (dA (dTup dA0) dA0))) dA0))))))) (gName 1))
  (sRet (dOp oIx (dV 1) (dOp oMod (dV 0) (dUn oLen (dV 1))))))))
def t__law_text_bent : DS :=
  (sSeq (sAsg (dOp oIx (dLst (dA (dC (.str "a")) (dA (dC (.str "z")) (dA (dC (.str "0")) (dA (dC (.str "9")) (dA (dC (.str "A")) (dA (dC (.str " ")) (dA (dC (.str "-")) (dA (dC (.str "_")) dA0))))))))) (dOp oMod (dOp oFdiv (dV 0) (dC (.int 3))) (dC (.int 8)))) (gName 2))
  (sSeq (sAsg (dOp oMod (dOp oFdiv (dV 0) (dC (.int 24))) (dOp oAdd (dUn oLen (dV 1)) (dC (.int 1)))) (gName 3))
  (sSeq (sAsg (dLst (dA (dOp oAdd (dOp oAdd (dCut (dV 1) dNoPart (dPart (dV 3))) (dV 2)) (dCut (dV 1) (dPart (dV 3)) dNoPart)) (dA (dOp oAdd (dOp oAdd (dCut (dV 1) dNoPart (dPart (dV 3))) (dV 2)) (dCut (dV 1) (dPart (dOp oAdd (dV 3) (dC (.int 1)))) dNoPart)) (dA (dOp oAdd (dCut (dV 1) dNoPart (dPart (dV 3))) (dCut (dV 1) (dPart (dOp oAdd (dV 3) (dC (.int 1)))) dNoPart)) dA0)))) (gName 4))
  (sRet (dOp oIx (dV 4) (dOp oMod (dV 0) (dC (.int 3))))))))
def t__law_bent (sp__law_odd : Spec) (sp__law_bent : Spec) (sp__law_next : Spec) (sp__law_text_bent : Spec) : DS :=
  (sSeq (sAsg (dCall sp__law_next (dA (dV 0) dA0)) (gName 2))
  (sSeq (sIf (dAnd (dTest (dUn (oIsi "str") (dV 1))) (dTest (dOp oGt (dOp oMod (dV 2) (dC (.int 4))) (dC (.int 0))))) (sRet (dCall sp__law_text_bent (dA (dOp oFdiv (dV 2) (dC (.int 4))) (dA (dV 1) dA0)))) sNext)
  (sSeq (sIf (dAnd (dTest (dUn (oIsi "tuple") (dV 1))) (dAnd (dTest (dOp oNeT0 (dV 1) (dTup dA0))) (dTest (dOp oGt (dOp oMod (dV 2) (dC (.int 5))) (dC (.int 0)))))) (sSeq (sAsg (dOp oMod (dCall sp__law_next (dA (dV 0) dA0)) (dUn oLen (dV 1))) (gName 3))
  (sSeq (sAsg (dTup (dA (dCall sp__law_bent (dA (dV 0) (dA (dOp oIx (dV 1) (dV 3)) dA0))) dA0)) (gName 4))
  (sSeq (sIf (dTest (dOp oEq (dOp oMod (dOp oFdiv (dV 2) (dC (.int 5))) (dC (.int 6))) (dC (.int 0)))) (sAsg (dOp oIx (dLst (dA (dTup dA0) (dA (dTup (dA (dOp oIx (dV 1) (dV 3)) (dA (dOp oIx (dV 1) (dV 3)) dA0))) (dA (dTup (dA (dOp oIx (dV 1) (dOp oMod (dOp oFdiv (dV 2) (dC (.int 30))) (dUn oLen (dV 1)))) dA0)) dA0)))) (dOp oMod (dOp oFdiv (dV 2) (dC (.int 900))) (dC (.int 3)))) (gName 4)) sNext)
  (sRet (dOp oAdd (dOp oAdd (dCut (dV 1) dNoPart (dPart (dV 3))) (dV 4)) (dCut (dV 1) (dPart (dOp oAdd (dV 3) (dC (.int 1)))) dNoPart)))))) sNext)
  (sSeq (sIf (dAnd (dTest (dUn (oIsi "tuple") (dV 1))) (dTest (dOp oEq (dOp oMod (dOp oFdiv (dV 2) (dC (.int 5))) (dC (.int 3))) (dC (.int 0))))) (sRet (dOp oIx (dLst (dA (dUn oList (dV 1)) (dA (dUn oRev (dV 1)) (dA (dOp oAdd (dV 1) (dV 1)) dA0)))) (dOp oMod (dOp oFdiv (dV 2) (dC (.int 15))) (dC (.int 3))))) sNext)
  (sRet (dCall sp__law_odd (dA (dOp oFdiv (dV 2) (dC (.int 20))) dA0)))))))
def t__law_heads : DS :=
  (sSeq (sAsg (dLst (dA (dLst (dA (dC (.str "name")) (dA (dC (.str "made")) (dA (dC (.str "call")) (dA (dC (.str "either")) (dA (dC (.str "same")) (dA (dC (.str "skip")) dA0))))))) (dA (dLst (dA (dC (.str "name")) (dA (dC (.str "made")) dA0))) (dA (dLst (dA (dC (.str "made")) dA0)) (dA (dLst (dA (dC (.str "name")) (dA (dC (.str "made")) (dA (dC (.str "skip")) dA0)))) dA0))))) (gName 1))
  (sRet (dOp oIx (dV 1) (dOp oMod (dV 0) (dC (.int 4))))))
def t__law_says : DS :=
  (sRet (dAndV (dUn (oIsi "bool") (dV 0)) (dOp oEq (dV 0) (dV 1))))
def t__law_right (sp__law_says : Spec) (sp_is_plain : Spec) (sp__law_is : Spec) (sp_is_word : Spec) (sp__law_is_word : Spec) (sp_is_thing : Spec) (sp_is_saying : Spec) : DS :=
  (sSeq (sAsg (dLst (dA (dC (.str "name")) (dA (dC (.str "made")) (dA (dC (.str "call")) (dA (dC (.str "either")) (dA (dC (.str "same")) (dA (dC (.str "skip")) dA0))))))) (gName 1))
  (sSeq (sIf (dNot (dTest (dCall sp__law_says (dA (dCall sp_is_saying (dA (dV 0) dA0)) (dA (dCall sp__law_is (dA (dV 0) (dA (dV 1) dA0))) dA0))))) (sRet (dC (.bl false))) sNext)
  (sSeq (sIf (dNot (dTest (dCall sp__law_says (dA (dCall sp_is_thing (dA (dV 0) dA0)) (dA (dCall sp__law_is (dA (dV 0) (dA (dLst (dA (dC (.str "name")) (dA (dC (.str "made")) dA0))) dA0))) dA0))))) (sRet (dC (.bl false))) sNext)
  (sRet (dAndV (dCall sp__law_says (dA (dCall sp_is_plain (dA (dV 0) dA0)) (dA (dCall sp__law_is (dA (dV 0) (dA (dLst (dA (dC (.str "made")) dA0)) dA0))) dA0))) (dCall sp__law_says (dA (dCall sp_is_word (dA (dV 0) dA0)) (dA (dCall sp__law_is_word (dA (dV 0) dA0)) dA0))))))))
def t_law (sp__law_right : Spec) (sp__law_bent : Spec) (sp__law_letters : Spec) (sp__law_name : Spec) (sp__law_any : Spec) (sp__law_heads : Spec) (sp__law_next : Spec) (sp__law_deck : Spec) : DS :=
  (sSeq (sAsg (dCall sp__law_deck (dA (dV 0) dA0)) (gName 1))
  (sSeq (sAsg (dLst dA0) (gName 2))
  (sSeq (sFor (iRange (dC (.int 12))) (gName 3) (sSeq (sAsg (dCall sp__law_next (dA (dV 1) dA0)) (gName 4))
  (sSeq (sAsg (dCall sp__law_any (dA (dV 1) (dA (dCall sp__law_heads (dA (dV 4) dA0)) (dA (dOp oAdd (dC (.int 1)) (dOp oMod (dOp oFdiv (dV 4) (dC (.int 4))) (dC (.int 5)))) dA0)))) (gName 5))
  (sSeq (sAsg (dCall sp__law_bent (dA (dV 1) (dA (dV 5) dA0))) (gName 6))
  (sAsg (dOp oAdd (dV 2) (dLst (dA (dV 5) (dA (dV 6) (dA (dCall sp__law_bent (dA (dV 1) (dA (dV 6) dA0))) (dA (dCall sp__law_name (dA (dV 1) dA0)) (dA (dCall sp__law_bent (dA (dV 1) (dA (dCall sp__law_letters (dA (dV 1) (dA (dC (.int 8)) dA0))) dA0))) dA0))))))) (gName 2))))))
  (sSeq (sAsg (dOp oAdd (dV 2) (dLst (dA (dC (.str "kind")) (dA (dC (.str "def")) (dA (dC (.str "either")) (dA (dC (.str "same")) (dA (dC (.str "truth")) (dA (dC (.str "skip")) (dA (dC (.str "name")) (dA (dC (.str "yes")) (dA (dC (.str "a")) (dA (dC (.str "abcdefgh")) (dA (dC (.str "abcdefghi")) (dA (dC (.str "")) dA0)))))))))))))) (gName 2))
  (sRet (dUn oAll (dComp (iSeq (dOp oAdd (dV 2) (dCut (dV 2) dNoPart (dPart (dC (.int 5)))))) (gName 5) dYes (dCall sp__law_right (dA (dV 5) dA0)) [5])))))))
/-! ### draws -/
/-- the deck at dk has room for at least b - B draws more, all else is as it was -/
def Drew (kind : Nat) (M : Mem) (dk : Addr) (b B : Nat) (M' : Mem) : Prop := ∃ b', M' = mset M dk (.deck kind b') ∧ b ≤ b' + B
theorem Drew.refl {kind : Nat} {M : Mem} {dk : Addr} {b : Nat} (h : M dk = some (.deck kind b)) : Drew kind M dk b 0 M := ⟨b, (mset_self h).symm, Nat.le_refl _⟩
def sp_next (kind : Nat) (top : Int) : Spec := ⟨fun ds M => ∃ dk b, ds = [.ref dk] ∧ M dk = some (.deck kind b) ∧ 1 ≤ b,
  fun ds M d M' => ∀ dk b, ds = [.ref dk] → M dk = some (.deck kind b) → ∃ n : Int, d = .int n ∧ 0 ≤ n ∧ n < top ∧ Drew kind M dk b 1 M'⟩
/-- one draw, wherever it is asked -/
theorem draw {kind : Nat} {top : Int} {M : Mem} {dk : Addr} {b : Nat} {Q : DK} (h : M dk = some (.deck kind b)) (hb : 1 ≤ b) (q : ∀ (n : Int) (b' : Nat), 0 ≤ n → n < top → b ≤ b' + 1 → Q (.int n) (mset M dk (.deck kind b'))) :
    (sp_next kind top).pre [.ref dk] M ∧ ∀ d M', (sp_next kind top).post [.ref dk] M d M' → Q d M' := by
  refine ⟨⟨dk, b, rfl, h, hb⟩, fun d M' p => ?_⟩
  obtain ⟨n, rfl, h0, h1, b', rfl, hb'⟩ := p dk b rfl h
  exact q n b' h0 h1 hb'
def sp_deck (kind room : Nat) : Spec := ⟨fun ds M => ∃ ns : List Int, ds = [.rol (ns.map D.int)] ∧ ns.length ≤ 63 ∧ M = fun _ => none, fun _ _ d M' => ∃ dk, d = .ref dk ∧ M' dk = some (.deck kind room)⟩
def intsD (ns : List Int) : List D := ns.map D.int
/-! ### picking -/
theorem atI_mem {α : Type} {xs : List α} {i : Int} (h0 : 0 ≤ i) (h1 : i < xs.length) : ∃ v, atI xs i = some v ∧ v ∈ xs := by
  have h : i.toNat < xs.length := by omega
  refine ⟨xs[i.toNat], ?_, List.getElem_mem h⟩
  unfold atI ixN
  rw [if_pos h0, if_pos h1]
  simp [h]
theorem atI_nat' {α : Type} {xs : List α} {i : Nat} (h : i < xs.length) : atI xs (i : Int) = some xs[i] := by
  unfold atI ixN
  rw [if_pos (by omega), if_pos (by omega)]
  simp [h]
@[simp] theorem atI_ite {α : Type} (c : Prop) [Decidable c] (a b : α) : atI [a, b] (if c then (1 : Int) else 0) = some (if c then b else a) := by
  by_cases h : c
  · simp [h, atI, ixN]
  · simp [h, atI, ixN]
def upFrom : Nat → Nat → List D
  | _, 0 => []
  | k, n + 1 => .int (k : Int) :: upFrom (k + 1) n
theorem upFrom_eq (k n : Nat) : upFrom k n = (List.range' k n).map fun (i : Nat) => D.int (i : Int) := by
  induction n generalizing k with
  | zero => rfl
  | succ n ih => simp [upFrom, List.range'_succ, ih]
theorem upTo_eq (n : Nat) : upTo n = upFrom 0 n := by
  rw [upFrom_eq]
  unfold upTo
  rw [List.range_eq_range']
@[simp] theorem upFrom_length (k n : Nat) : (upFrom k n).length = n := by
  rw [upFrom_eq]; simp
@[simp] theorem upTo_length (n : Nat) : (upTo n).length = n := by simp [upTo]
theorem mod_pos (a : Int) {m : Int} (h : 0 < m) : 0 ≤ a % m ∧ a % m < m := ⟨Int.emod_nonneg a (by omega), Int.emod_lt_of_pos a h⟩
theorem alpha_cps : (Str.ofString "abcdefghijklmnopqrstuvwxyz").cps.toList = [97, 98, 99, 100, 101, 102, 103, 104, 105, 106, 107, 108, 109, 110, 111, 112, 113, 114, 115, 116, 117, 118, 119, 120, 121, 122] := by decide +kernel
theorem alpha_len : (Str.ofString "abcdefghijklmnopqrstuvwxyz").length = 26 := by decide +kernel
theorem one_len (c : Nat) : (⟨#[c]⟩ : Str).length = 1 := rfl
theorem strOk_rep {x : Str} (h : strOk x = true) : ∀ n : Nat, strOk (repS n x) = true := by
  have f : ∀ (n : Nat) (a : Array Nat), a.all (· < 0x110000) = true → ((List.replicate n x.cps).foldl (· ++ ·) a).all (· < 0x110000) = true := by
    intro n
    induction n with
    | zero => intro a ha; simpa using ha
    | succ n ih =>
      intro a ha
      rw [List.replicate_succ, List.foldl_cons]
      refine ih _ ?_
      rw [Array.all_append, ha]
      exact h
  intro n
  exact f n #[] (by simp)
theorem repS_length (x : Str) : ∀ n : Nat, (repS n x).length = n * x.length := by
  have f : ∀ (n : Nat) (a : Array Nat), ((List.replicate n x.cps).foldl (· ++ ·) a).size = a.size + n * x.cps.size := by
    intro n
    induction n with
    | zero => intro a; simp
    | succ n ih =>
      intro a
      rw [List.replicate_succ, List.foldl_cons, ih, Array.size_append, Nat.succ_mul]
      omega
  intro n
  have := f n #[]
  simp only [Array.size_empty, Nat.zero_add] at this
  exact this
theorem mset4 {M : Mem} {a p : Addr} (h : p ≠ a) (o1 o2 o3 o4 : MO) : mset (mset (mset (mset M a o1) p o2) a o3) p o4 = mset (mset M a o3) p o4 := by
  rw [mset_comm (a := p) (b := a) h, mset_mset, mset_mset]
theorem Sub.upd {M M' : Mem} (s : Sub M M') {p : Addr} {o : MO} (h : M p = none) (so : soft (some o)) : Sub M (DL.mset M' p o) := fun b => by
  by_cases e : b = p
  · subst e; rw [mset_same]; exact .inr ⟨h, so⟩
  · rw [mset_ne e]; exact s b
/-! memory behind some draws: lists that are new may lie about -/
structure KS (kind : Nat) (M M1 : Mem) (dk : Addr) (b : Nat) : Prop where
  sub : Sub (mset M dk (.deck kind b)) M1
theorem KS.deck {kind : Nat} {M M1 : Mem} {dk : Addr} {b : Nat} (s : KS kind M M1 dk b) : M1 dk = some (.deck kind b) := by
  rcases s.sub dk with h | h
  · rw [← h, mset_same]
  · rw [mset_same] at h; cases h.1
theorem KS.start {kind : Nat} {M : Mem} {dk : Addr} {b : Nat} (h : M dk = some (.deck kind b)) : KS kind M M dk b := ⟨by rw [mset_self h]; exact Sub.refl _⟩
theorem KS.draw {kind : Nat} {M M1 : Mem} {dk : Addr} {b : Nat} (s : KS kind M M1 dk b) (b' : Nat) : KS kind M (mset M1 dk (.deck kind b')) dk b' := ⟨by
  have := s.sub.mset dk (.deck kind b')
  rw [mset_mset] at this
  exact this⟩
theorem KS.fresh {kind : Nat} {M M1 : Mem} {dk p : Addr} {b : Nat} (s : KS kind M M1 dk b) (h : M1 p = none) : p ≠ dk ∧ M p = none := by
  have h1 : p ≠ dk := fun e => by rw [e, s.deck] at h; cases h
  refine ⟨h1, ?_⟩
  rcases s.sub p with z | z
  · rw [mset_ne h1] at z; rw [z, h]
  · have := z.1; rw [mset_ne h1] at this; exact this
theorem KS.upd {kind : Nat} {M M1 : Mem} {dk p : Addr} {b : Nat} (s : KS kind M M1 dk b) (h : p ≠ dk ∧ M p = none) (xs : List D) : KS kind M (mset M1 p (.lst xs)) dk b := ⟨s.sub.upd (by rw [mset_ne h.1]; exact h.2) trivial⟩
theorem atI_zero {α : Type} (x : α) (r : List α) : atI (x :: r) 0 = some x := by
  have : (0 : Int) < ((x :: r).length : Int) := by simp
  simp only [atI, ixN, Int.le_refl, if_true, if_pos this]
  rfl
theorem atI3_0 (x y z : D) : atI [x, y, z] 0 = some x := rfl
theorem atI3_1 (x y z : D) : atI [x, y, z] 1 = some y := rfl
theorem atI3_2 (x y z : D) : atI [x, y, z] 2 = some z := rfl
theorem ixN3 : ixN 3 2 = some 2 := rfl
theorem atI2_0 (x y : D) : atI [x, y] 0 = some x := rfl
theorem atI2_1 (x y : D) : atI [x, y] 1 = some y := rfl
/-! ### letters, names -/
/-- so many small letters -/
def Lets (x : Str) (m : Nat) : Prop := x.length = m ∧ ∀ c ∈ x.cps.toList, 97 ≤ c ∧ c ≤ 122
theorem lets_ok {x : Str} {m : Nat} (h : Lets x m) : strOk x = true := by
  unfold strOk
  rw [← Array.all_toList, List.all_eq_true]
  intro c hc
  have := h.2 c hc
  rw [decide_eq_true_eq]
  omega
theorem lets_nm {x : Str} {m : Nat} (h : Lets x m) (hm : m ≤ 100) : nmOk x = true := by
  simp only [nmOk, Bool.and_eq_true, decide_eq_true_eq]
  exact ⟨lets_ok h, by rw [h.1]; exact hm⟩
theorem figs_len : ∀ i : Fin 1000, (Str.ofString (toString (i.val : Int))).length ≤ 4 := by decide +kernel
theorem nm_figs {i : Int} (h0 : 0 ≤ i) (h1 : i < 1000) : nmOk (Str.ofString (toString i)) = true := by
  obtain ⟨j, rfl⟩ := Int.eq_ofNat_of_zero_le h0
  have := figs_len ⟨j, by omega⟩
  exact nm_of _ (Nat.le_trans this (by decide))
theorem lets_add {x : Str} {m c : Nat} (h : Lets x m) (hc : 97 ≤ c ∧ c ≤ 122) : Lets (x ++ ⟨#[c]⟩) (m + 1) := by
  obtain ⟨h1, h2⟩ := h
  have e : (x ++ ⟨#[c]⟩ : Str).cps.toList = x.cps.toList ++ [c] := by
    show (x.cps ++ #[c]).toList = _
    simp
  refine ⟨?_, ?_⟩
  · show (x.cps ++ #[c]).size = m + 1
    have : x.cps.size = m := h1
    simp; omega
  · intro d hd
    rw [e, List.mem_append] at hd
    rcases hd with hd | hd
    · exact h2 d hd
    · rw [List.mem_singleton.mp hd]; exact hc
def sp_letters (kind : Nat) : Spec := ⟨fun ds M => ∃ dk b m, ds = [.ref dk, .int (m : Nat)] ∧ M dk = some (.deck kind b) ∧ 1 ≤ m ∧ m ≤ 100 ∧ m + 1 ≤ b,
  fun ds M d M' => ∀ dk b m, ds = [.ref dk, .int ((m : Nat) : Int)] → M dk = some (.deck kind b) → ∃ x j, d = .str x ∧ Lets x j ∧ 1 ≤ j ∧ j ≤ m ∧ Drew kind M dk b (m + 1) M'⟩
theorem call_letters {kind : Nat} {M : Mem} {dk : Addr} {b m : Nat} {Q : DK} (h : M dk = some (.deck kind b)) (h1 : 1 ≤ m) (h2 : m ≤ 100) (hb : m + 1 ≤ b)
    (q : ∀ x j b', Lets x j → 1 ≤ j → j ≤ m → b ≤ b' + (m + 1) → Q (.str x) (mset M dk (.deck kind b'))) :
    (sp_letters kind).pre [.ref dk, .int (m : Int)] M ∧ ∀ d M', (sp_letters kind).post [.ref dk, .int (m : Int)] M d M' → Q d M' := by
  refine ⟨⟨dk, b, m, rfl, h, h1, h2, hb⟩, fun d M' p => ?_⟩
  obtain ⟨x, j, rfl, hx, hl, hj, b', rfl, hb'⟩ := p dk b m rfl h
  exact q x j b' hx hl hj hb'
theorem lets_loop (kind : Nat) (top : Int) (E : DEnds) (dk : Addr) (o1 o2 : Option D) : ∀ (n k : Nat) (M : Mem) (x : Str) (m b : Nat) (o4 : Option D), Lets x m → m + n ≤ 100 → n ≤ b → M dk = some (.deck kind b) →
    (∀ x b' o4, Lets x (m + n) → b ≤ b' + n → E.nx [some (.ref dk), o1, o2, some (.str x), o4] (mset M dk (.deck kind b'))) →
    sLoop (gName 4) (sAsg (dOp oAdd (dV 3) (dOp oIx (dC (.str "abcdefghijklmnopqrstuvwxyz")) (dOp oMod (dCall (sp_next kind top) (dA (dV 0) dA0)) (dC (.int 26))))) (gName 3)) (upFrom k n) E [some (.ref dk), o1, o2, some (.str x), o4] M
  | 0, k, M, x, m, b, o4, hx, _, _, hM, q => by
    have := q x b o4 hx (by omega)
    rw [mset_self hM] at this
    simpa [upFrom] using this
  | n + 1, k, M, x, m, b, o4, hx, h1, h2, hM, q => by
    simp only [upFrom]
    simp
    refine draw hM (by omega) fun r b' h0 hr hb' => ?_
    have hm := mod_pos r (show (0 : Int) < 26 by decide)
    obtain ⟨c, e, hc⟩ := atI_mem (xs := (Str.ofString "abcdefghijklmnopqrstuvwxyz").cps.toList) hm.1 (by rw [alpha_cps]; exact hm.2)
    have hc' : 97 ≤ c ∧ c ≤ 122 := by
      rw [alpha_cps] at hc
      simp at hc
      omega
    simp [e, alpha_len, one_len]
    refine ⟨by have := hx.1; omega, ?_⟩
    have hx' := lets_add hx hc'
    refine lets_loop kind top E dk o1 o2 n (k + 1) _ _ (m + 1) b' _ hx' (by omega) (by omega) (by simp) ?_
    intro y b'' o4 hy hb''
    rw [mset_mset]
    exact q y b'' o4 (by rw [show m + (n + 1) = m + 1 + n by omega]; exact hy) (by omega)
theorem lets_nil : Lets (Str.ofString "") 0 := by
  refine ⟨by decide +kernel, ?_⟩
  intro c hc
  have : (Str.ofString "").cps.toList = [] := by decide +kernel
  rw [this] at hc
  cases hc
theorem does_letters (kind : Nat) (top : Int) : Does 5 (t__law_letters (sp_next kind top)) 2 (sp_letters kind) := by
  rintro ds M hl ⟨dk, b, m, rfl, hM, h1, h2, hb⟩
  simp [t__law_letters]
  refine draw hM (by omega) fun r b' h0 hr hb' => ?_
  have hm := mod_pos r (show (0 : Int) < m by omega)
  simp
  refine ⟨by omega, by omega, ?_⟩
  rw [upTo_eq]
  refine lets_loop kind top _ dk _ _ _ 0 _ _ 0 b' none lets_nil (by omega) (by omega) (by simp) ?_
  intro x b'' o4 hx hb''
  rw [mset_mset]
  refine Ret.now ?_
  intro dk' b0 m' e1 e2
  simp only [List.cons.injEq, D.ref.injEq, D.int.injEq, and_true] at e1
  obtain ⟨rfl, e1⟩ := e1
  rw [hM] at e2
  cases e2
  have : m' = m := by omega
  subst this
  exact ⟨x, _, rfl, hx, by omega, by omega, b'', rfl, by omega⟩
/-- what names may be -/
def sp_name (kind : Nat) : Spec := ⟨fun ds M => ∃ dk b, ds = [.ref dk] ∧ M dk = some (.deck kind b) ∧ 10 ≤ b,
  fun ds M d M' => ∀ dk b, ds = [.ref dk] → M dk = some (.deck kind b) → ∃ x, d = .str x ∧ nmOk x = true ∧ Drew kind M dk b 10 M'⟩
theorem call_name {kind : Nat} {M : Mem} {dk : Addr} {b : Nat} {Q : DK} (h : M dk = some (.deck kind b)) (hb : 10 ≤ b)
    (q : ∀ x b', nmOk x = true → b ≤ b' + 10 → Q (.str x) (mset M dk (.deck kind b'))) :
    (sp_name kind).pre [.ref dk] M ∧ ∀ d M', (sp_name kind).post [.ref dk] M d M' → Q d M' := by
  refine ⟨⟨dk, b, rfl, h, hb⟩, fun d M' p => ?_⟩
  obtain ⟨x, rfl, hx, b', rfl, hb'⟩ := p dk b rfl h
  exact q x b' hx hb'
theorem does_name (kind : Nat) (top : Int) : Does 4 (t__law_name (sp_letters kind) (sp_next kind top)) 1 (sp_name kind) := by
  rintro ds M hl ⟨dk, b, rfl, hM, hb⟩
  have fin : ∀ x b', nmOk x = true → b ≤ b' + 10 → Ret (sp_name kind) [.ref dk] M (.str x) (mset M dk (.deck kind b')) := by
    intro x b' h1 h3
    refine Ret.now ?_
    intro dk' b0 e1 e2
    simp only [List.cons.injEq, D.ref.injEq, and_true] at e1
    subst e1
    rw [hM] at e2
    cases e2
    exact ⟨x, rfl, h1, b', rfl, h3⟩
  simp [t__law_name]
  refine draw hM (by omega) fun r b' h0 hr hb' => ?_
  simp
  by_cases c1 : r % 8 < 4
  · simp [c1]
    have hm := mod_pos (r / 8) (show (0 : Int) < 8 by decide)
    obtain ⟨v, e, hv⟩ := atI_mem (xs := [D.str (Str.ofString "a"), D.str (Str.ofString "b"), D.str (Str.ofString "ab"), D.str (Str.ofString "ba"), D.str (Str.ofString "kin"), D.str (Str.ofString "sam"), D.str (Str.ofString "eithers"), D.str (Str.ofString "yes")]) hm.1 hm.2
    simp only [e]
    simp only [List.mem_cons, List.not_mem_nil, or_false] at hv
    rcases hv with rfl | rfl | rfl | rfl | rfl | rfl | rfl | rfl <;> exact fin _ b' (nm_of _) (by omega)
  · simp [c1]
    by_cases c2 : r % 8 = 4
    · simp [c2]
      have hm := mod_pos (r / 8) (show (0 : Int) < 999 by decide)
      refine ⟨?_, fin _ b' (nm_figs (by omega) (by omega)) (by omega)⟩
      have : (1 + r / 8 % 999).natAbs ≤ 1000 := by omega
      exact Nat.lt_of_le_of_lt this (by decide)
    · simp [c2]
      refine call_letters (b := b') (m := 8) (by simp) (by decide) (by decide) (by omega) fun x j b'' hx h1 h2 h3 => ?_
      simp
      split
      · exact fin _ b'' (nm_of _) (by omega)
      · exact fin _ b'' (lets_nm hx (by omega)) (by omega)
/-! ### sayings by draws -/
def B : Nat → Nat
  | 0 => 11
  | n + 1 => 3 * B n + 11
theorem B_pos (n : Nat) : 11 ≤ B n := by cases n <;> simp [B] <;> omega
mutual
/-- all its heads are some -/
def Say.by (f : Str → Bool) : Say → Bool
  | .name _ => f "name"
  | .skip => f "skip"
  | .made _ ps => f "made" && bys f ps
  | .call _ ps => f "call" && bys f ps
  | .either a b => f "either" && a.by f && b.by f
  | .same a b => f "same" && a.by f && b.by f
def bys (f : Str → Bool) : List Say → Bool
  | [] => true
  | s :: r => s.by f && bys f r
end
def six : List Str := ["name", "made", "call", "either", "same", "skip"]
def sp_any (kind n : Nat) : Spec := ⟨fun ds M => ∃ (dk : Addr) (b : Nat) (hs : List Str) (left : Int), ds = [.ref dk, .lst (hs.map D.str), .int left] ∧ M dk = some (.deck kind b) ∧ hs ≠ [] ∧ hs.length ≤ 1000 ∧ (∀ h ∈ hs, h ∈ six) ∧ 1 ≤ left ∧ left ≤ (n : Int) ∧ B n ≤ b,
  fun ds M d M' => ∀ (dk : Addr) (b : Nat) (hs : List Str) (left : Int), ds = [.ref dk, .lst (hs.map D.str), .int left] → M dk = some (.deck kind b) → ∃ s : Say, d = s.d ∧ s.ok = true ∧ (s.deep : Int) ≤ left ∧ s.by (fun h => decide (h ∈ hs) || decide (h = "made")) = true ∧ Drew kind M dk b (B n) M'⟩
theorem call_any {kind n : Nat} {M : Mem} {dk : Addr} {b : Nat} {hs : List Str} {left : Int} {Q : DK} (h : M dk = some (.deck kind b)) (h1 : hs ≠ []) (h2 : hs.length ≤ 1000) (h3 : ∀ h ∈ hs, h ∈ six) (h4 : 1 ≤ left) (h5 : left ≤ (n : Int)) (hb : B n ≤ b)
    (q : ∀ (s : Say) b', s.ok = true → (s.deep : Int) ≤ left → s.by (fun h => decide (h ∈ hs) || decide (h = "made")) = true → b ≤ b' + B n → Q s.d (mset M dk (.deck kind b'))) :
    (sp_any kind n).pre [.ref dk, .lst (hs.map D.str), .int left] M ∧ ∀ d M', (sp_any kind n).post [.ref dk, .lst (hs.map D.str), .int left] M d M' → Q d M' := by
  refine ⟨⟨dk, b, hs, left, rfl, h, h1, h2, h3, h4, h5, hb⟩, fun d M' p => ?_⟩
  obtain ⟨s, rfl, hs, hd, hy, b', rfl, hb'⟩ := p dk b hs left rfl h
  exact q s b' hs hd hy hb'
theorem any_none (kind : Nat) (ds : List D) (M : Mem) : ¬ (sp_any kind 0).pre ds M := by
  rintro ⟨dk, b, hs, left, _, _, _, _, _, h1, h2, _⟩
  omega
theorem does_any (kind : Nat) (top : Int) (n : Nat) : Does 9 (t__law_any (sp_any kind n) (sp_name kind) (sp_next kind top)) 3 (sp_any kind (n + 1)) := by
  rintro ds M hl ⟨dk, b, hs, left, rfl, hM, hne, hlen, hsix, hl1, hl2, hb⟩
  have hB := B_pos n
  have hB1 : B (n + 1) = 3 * B n + 11 := rfl
  have fin : ∀ (s : Say) b', s.ok = true → (s.deep : Int) ≤ left → s.by (fun h => decide (h ∈ hs) || decide (h = "made")) = true → b ≤ b' + B (n + 1) → Ret (sp_any kind (n + 1)) [.ref dk, .lst (hs.map D.str), .int left] M s.d (mset M dk (.deck kind b')) := by
    intro s b' z1 z2 z3 z4
    refine Ret.now ?_
    intro dk' b0 hs' left' e1 e2
    simp only [List.cons.injEq, D.ref.injEq, D.lst.injEq, D.int.injEq, and_true] at e1
    obtain ⟨rfl, e3, rfl⟩ := e1
    have e3 : hs = hs' := by
      have inj : ∀ (a b : List Str), a.map D.str = b.map D.str → a = b := by
        intro a
        induction a with
        | nil => intro b h; cases b with
          | nil => rfl
          | cons _ _ => simp at h
        | cons x r ih => intro b h; cases b with
          | nil => simp at h
          | cons y t =>
            simp only [List.map_cons, List.cons.injEq, D.str.injEq] at h
            rw [h.1, ih t h.2]
      exact inj _ _ e3
    subst e3
    rw [hM] at e2
    cases e2
    exact ⟨s, rfl, z1, z2, z3, b', rfl, z4⟩
  have hu : ∀ h : Str, h ∈ hs → (decide (h ∈ hs) || decide (h = "made")) = true := fun h hh => by simp [hh]
  -- the parts of a made, a call
  have comp : ∀ (ρ : Env) (Q : DK) (k i : Nat) (ss : List Say) (b1 : Nat), ρ[0]? = some (some (.ref dk)) → ρ[1]? = some (some (.lst (hs.map D.str))) → ρ[2]? = some (some (.int left)) → 8 < ρ.length → 2 ≤ left → k * B n ≤ b1 →
      oks ss = true → (deeps ss : Int) ≤ left - 1 → bys (fun h => decide (h ∈ hs) || decide (h = "made")) ss = true →
      (∀ ts b', oks ts = true → (deeps ts : Int) ≤ left - 1 → bys (fun h => decide (h ∈ hs) || decide (h = "made")) ts = true → ts.length = ss.length + k → b1 ≤ b' + k * B n → Q (.lst (says ts)) (mset M dk (.deck kind b'))) →
      dCompL (gName 8) dYes (dCall (sp_any kind n) (dA (dV 0) (dA (dV 1) (dA (dOp oSub (dV 2) (dC (.int 1))) dA0)))) ρ (upFrom i k) (says ss) (mset M dk (.deck kind b1)) Q := by
    intro ρ Q k
    induction k with
    | zero =>
      intro i ss b1 _ _ _ _ _ _ o1 o2 o3 q
      simpa [upFrom] using q ss b1 o1 o2 o3 rfl (by omega)
    | succ k ih =>
      intro i ss b1 r0 r1 r2 r8 h2 hk o1 o2 o3 q
      rw [Nat.succ_mul] at hk q
      have g : ∀ (j : Nat) (x : D), j ≠ 8 → (ρ.set 8 (some x))[j]? = ρ[j]? := fun j x hj => List.getElem?_set_ne (Ne.symm hj)
      simp [upFrom, g, r0, r1, r2]
      refine call_any (b := b1) (by simp) hne hlen hsix (by omega) (by omega) (by omega) fun s b' z1 z2 z3 z4 => ?_
      rw [mset_mset]
      have sn : ∀ l : List Say, says (l ++ [s]) = says l ++ [s.d] := fun l => by
        induction l with
        | nil => simp [says]
        | cons a r ih => simp [says, ih]
      rw [← sn]
      have ob : ∀ l : List Say, oks l = true → oks (l ++ [s]) = true := fun l => by
        induction l with
        | nil => simp [oks, z1]
        | cons a r ih => simp [oks]; intro h1 h2; exact ⟨h1, ih h2⟩
      have db : ∀ l : List Say, (deeps l : Int) ≤ left - 1 → (deeps (l ++ [s]) : Int) ≤ left - 1 := fun l => by
        induction l with
        | nil => simp [deeps]; omega
        | cons a r ih => simp only [List.cons_append, deeps]; intro h; have := ih (by omega); omega
      have bb : ∀ l : List Say, bys (fun h => decide (h ∈ hs) || decide (h = "made")) l = true → bys (fun h => decide (h ∈ hs) || decide (h = "made")) (l ++ [s]) = true := fun l => by
        induction l with
        | nil => intro _; simp only [List.nil_append, bys, z3, Bool.and_self]
        | cons a r ih => simp only [List.cons_append, bys, Bool.and_eq_true]; intro h; exact ⟨h.1, ih h.2⟩
      refine ih (i + 1) (ss ++ [s]) b' r0 r1 r2 r8 h2 (by omega) (ob _ o1) (db _ o2) (bb _ o3) ?_
      intro ts b'' y1 y2 y3 y4 y5
      exact q ts b'' y1 y2 y3 (by rw [y4]; simp; omega) (by omega)
  have rest : ∀ (w : Str) (r : Int) (b1 : Nat), b ≤ b1 + 1 → 0 ≤ r → ((w ∈ hs ∧ (2 ≤ left ∨ w = "name" ∨ w = "skip")) ∨ w = "made") →
      t__law_any_3 (sp_any kind n) (sp_name kind) (sp_next kind top) { nx := fun _ M' => Ret (sp_any kind (n + 1)) [.ref dk, .lst (hs.map D.str), .int left] M .non M', rt := Ret (sp_any kind (n + 1)) [.ref dk, .lst (hs.map D.str), .int left] M }
        [some (.ref dk), some (.lst (hs.map D.str)), some (.int left), some (.int r), some (.str w), none, none, none, none] (mset M dk (.deck kind b1)) := by
    intro w r b1 hb1 h0 hw
    have tail : ∀ (mk : Str → List Say → Say), (w = "made" ∧ mk = Say.made ∨ w = "call" ∧ w ∈ hs ∧ 2 ≤ left ∧ mk = Say.call) →
        t__law_any_3 (sp_any kind n) (sp_name kind) (sp_next kind top) { nx := fun _ M' => Ret (sp_any kind (n + 1)) [.ref dk, .lst (hs.map D.str), .int left] M .non M', rt := Ret (sp_any kind (n + 1)) [.ref dk, .lst (hs.map D.str), .int left] M }
        [some (.ref dk), some (.lst (hs.map D.str)), some (.int left), some (.int r), some (.str w), none, none, none, none] (mset M dk (.deck kind b1)) := by
      intro mk hmk
      have hm := mod_pos (r / 16) (show (0 : Int) < 6 by decide)
      have hm2 := mod_pos (r / 96) (show (0 : Int) < 7 by decide)
      obtain ⟨v, e, hv⟩ := atI_mem (xs := [D.int 0, D.int 1, D.int 1, D.int 2, D.int 2, D.int 3]) hm.1 hm.2
      obtain ⟨u, e2, hu2⟩ := atI_mem (xs := [D.str (Str.ofString "yes"), D.str (Str.ofString "no"), D.str (Str.ofString "nought"), D.str (Str.ofString "next"), D.str (Str.ofString "pair"), D.str (Str.ofString "leaf"), D.str (Str.ofString "plus")]) hm2.1 hm2.2
      obtain ⟨y, rfl⟩ : ∃ y : Int, v = .int y := by
        simp at hv
        rcases hv with h | h | h | h <;> exact ⟨_, h⟩
      have hy : 0 ≤ y ∧ y ≤ 3 := by simp at hv; omega
      obtain ⟨x, rfl, hx⟩ : ∃ x : Str, u = .str x ∧ nmOk x = true := by
        simp only [List.mem_cons, List.not_mem_nil, or_false] at hu2
        rcases hu2 with h | h | h | h | h | h | h <;> exact ⟨_, h, nm_of _⟩
      have wn : w ≠ "skip" ∧ w ≠ "name" ∧ w ≠ "either" ∧ w ≠ "same" := by
        rcases hmk with ⟨rfl, _⟩ | ⟨rfl, _⟩ <;> simp [ofString_inj]
      have wn' : Str.ofString "either" ≠ w ∧ Str.ofString "same" ≠ w := ⟨fun z => wn.2.2.1 z.symm, fun z => wn.2.2.2 z.symm⟩
      simp [t__law_any_3, wn.1, wn.2.1, wn'.1, wn'.2, e, e2]
      have zero : (mk x []).ok = true ∧ ((mk x []).deep : Int) ≤ left ∧ (mk x []).by (fun h => decide (h ∈ hs) || decide (h = "made")) = true ∧ (mk x []).d = .tup [.str w, .str x, .tup []] := by
        rcases hmk with ⟨rfl, rfl⟩ | ⟨rfl, hw1, _, rfl⟩
        · simp [Say.ok, oks, hx, Say.deep, deeps, Say.by, bys, Say.d, says]; omega
        · simp [Say.ok, oks, hx, Say.deep, deeps, Say.by, bys, Say.d, says, hw1]; omega
      have more : ∀ ts : List Say, ts.length ≤ 3 → oks ts = true → (deeps ts : Int) ≤ left - 1 → bys (fun h => decide (h ∈ hs) || decide (h = "made")) ts = true →
          (mk x ts).ok = true ∧ ((mk x ts).deep : Int) ≤ left ∧ (mk x ts).by (fun h => decide (h ∈ hs) || decide (h = "made")) = true ∧ (mk x ts).d = .tup [.str w, .str x, .tup (says ts)] := by
        intro ts t1 t2 t3 t4
        rcases hmk with ⟨rfl, rfl⟩ | ⟨rfl, hw1, _, rfl⟩
        · refine ⟨by simp [Say.ok, hx, t1, t2], by simp only [Say.deep]; omega, by simp only [Say.by, t4]; simp, by simp [Say.d]⟩
        · refine ⟨by simp [Say.ok, hx, t1, t2], by simp only [Say.deep]; omega, by simp only [Say.by, t4]; simp [hw1], by simp [Say.d]⟩
      by_cases hleft : 1 < left
      · simp only [hleft, if_true, Int.mul_one]
        refine ⟨.inl ⟨by omega, by omega⟩, ⟨by omega, by omega⟩, by omega, ?_⟩
        rw [upTo_eq]
        have hz : y.toNat ≤ 3 := by omega
        have hk : y.toNat * B n ≤ 3 * B n := Nat.mul_le_mul_right _ hz
        refine comp _ _ y.toNat 0 [] b1 rfl rfl rfl (by simp) (by omega) (by omega) rfl (by simp [deeps]; omega) rfl ?_
        intro ts b' t1 t2 t3 t4 t5
        obtain ⟨m1, m2, m3, m4⟩ := more ts (by rw [t4]; simp; omega) t1 t2 t3
        simp only [oTuple_lst]
        rw [← m4]
        exact fin _ b' m1 m2 m3 (by omega)
      · simp only [hleft, if_false, Int.mul_zero]
        refine ⟨.inl ⟨by omega, by omega⟩, ⟨by omega, by omega⟩, by omega, ?_⟩
        simp [upTo]
        rw [← zero.2.2.2]
        exact fin _ b1 zero.1 zero.2.1 zero.2.2.1 (by omega)
    have hw6 : w ∈ six := by
      rcases hw with ⟨h, _⟩ | h
      · exact hsix w h
      · rw [h]; simp [six]
    simp only [six, List.mem_cons, List.not_mem_nil, or_false] at hw6
    rcases hw6 with rfl | rfl | rfl | rfl | rfl | rfl
    · have hn : Str.ofString "name" ∈ hs := by
        rcases hw with ⟨h, _⟩ | h
        · exact h
        · simp [ofString_inj] at h
      simp [t__law_any_3, ofString_inj]
      refine call_name (b := b1) (by simp) (by omega) fun x b' hx hb' => ?_
      rw [mset_mset]
      exact fin (.name x) b' (by simpa [Say.ok] using hx) (by simp [Say.deep]; omega) (by simp [Say.by, hn]) (by omega)
    · exact tail Say.made (.inl ⟨rfl, rfl⟩)
    · have hn : Str.ofString "call" ∈ hs ∧ 2 ≤ left := by
        rcases hw with ⟨h, h2⟩ | h
        · simp [ofString_inj] at h2; exact ⟨h, h2⟩
        · simp [ofString_inj] at h
      exact tail Say.call (.inr ⟨rfl, hn.1, hn.2, rfl⟩)
    · have hn : Str.ofString "either" ∈ hs ∧ 2 ≤ left := by
        rcases hw with ⟨h, h2⟩ | h
        · simp [ofString_inj] at h2; exact ⟨h, h2⟩
        · simp [ofString_inj] at h
      simp [t__law_any_3, ofString_inj]
      refine call_any (b := b1) (by simp) hne hlen hsix (by omega) (by omega) (by omega) fun s b2 z1 z2 z3 z4 => ?_
      rw [mset_mset]
      refine call_any (b := b2) (by simp) hne hlen hsix (by omega) (by omega) (by omega) fun s2 b3 y1 y2 y3 y4 => ?_
      rw [mset_mset]
      exact fin (.either s s2) b3 (by simp [Say.ok, z1, y1]) (by simp only [Say.deep]; omega) (by simp only [Say.by, z3, y3]; simp [hn.1]) (by omega)
    · have hn : Str.ofString "same" ∈ hs ∧ 2 ≤ left := by
        rcases hw with ⟨h, h2⟩ | h
        · simp [ofString_inj] at h2; exact ⟨h, h2⟩
        · simp [ofString_inj] at h
      simp [t__law_any_3, ofString_inj]
      refine call_any (b := b1) (by simp) hne hlen hsix (by omega) (by omega) (by omega) fun s b2 z1 z2 z3 z4 => ?_
      rw [mset_mset]
      refine call_any (b := b2) (by simp) hne hlen hsix (by omega) (by omega) (by omega) fun s2 b3 y1 y2 y3 y4 => ?_
      rw [mset_mset]
      exact fin (.same s s2) b3 (by simp [Say.ok, z1, y1]) (by simp only [Say.deep]; omega) (by simp only [Say.by, z3, y3]; simp [hn.1]) (by omega)
    · have hn : Str.ofString "skip" ∈ hs := by
        rcases hw with ⟨h, _⟩ | h
        · exact h
        · simp [ofString_inj] at h
      simp [t__law_any_3, ofString_inj]
      exact fin .skip b1 (by simp [Say.ok]) (by simp [Say.deep]; omega) (by simp [Say.by, hn]) (by omega)
  simp [t__law_any]
  refine draw hM (by omega) fun r b1 h0 hr hb1 => ?_
  have hpos : 0 < hs.length := List.length_pos_iff.mpr hne
  have hm := mod_pos r (show (0 : Int) < hs.length by omega)
  obtain ⟨v, e, hv⟩ := atI_mem (xs := hs.map D.str) hm.1 (by rw [List.length_map]; exact hm.2)
  obtain ⟨w, hw, rfl⟩ := List.mem_map.mp hv
  simp [e, ofString_inj]
  refine ⟨hpos, ?_⟩
  split
  · split
    · rename_i c1 c2
      refine rest w r b1 hb1 h0 (.inl ⟨hw, .inr ?_⟩)
      rcases c2 with c2 | c2
      · exact .inl c2.symm
      · exact .inr c2.symm
    · split
      · rename_i c1 c2 c3
        split
        · exact rest _ r b1 hb1 h0 (.inr rfl)
        · exact rest _ r b1 hb1 h0 (.inl ⟨c3, .inr (.inl rfl)⟩)
      · exact rest _ r b1 hb1 h0 (.inr rfl)
  · rename_i c1
    exact rest w r b1 hb1 h0 (.inl ⟨hw, .inl (by omega)⟩)
/-! ### data of every kind -/
mutual
/-- plain data and empty dicts; texts and rows of at most m -/
def od (m : Nat) : D → Bool
  | .non => true
  | .bl _ => true
  | .int _ => true
  | .str x => strOk x && decide (x.length ≤ m)
  | .tup xs => decide (xs.length ≤ m) && ods m xs
  | .lst xs => decide (xs.length ≤ m) && ods m xs
  | .dK [] [] => true
  | _ => false
def ods (m : Nat) : List D → Bool
  | [] => true
  | x :: xs => od m x && ods m xs
end
theorem ods_all {m : Nat} : ∀ {xs : List D}, ods m xs = true ↔ ∀ x ∈ xs, od m x = true
  | [] => by simp [ods]
  | x :: xs => by simp [ods, ods_all (xs := xs)]
theorem od_str {m : Nat} {x : Str} (h : od m (.str x) = true) : strOk x = true ∧ x.length ≤ m := by
  simpa [od] using h
theorem od_tup {m : Nat} {xs : List D} (h : od m (.tup xs) = true) : xs.length ≤ m ∧ ∀ x ∈ xs, od m x = true := by
  simp only [od, Bool.and_eq_true, decide_eq_true_eq] at h
  exact ⟨h.1, ods_all.mp h.2⟩
theorem depth_mem {x : D} : ∀ {xs : List D}, x ∈ xs → depth x ≤ depths xs
  | y :: ys, h => by
    simp only [depths]
    rcases List.mem_cons.mp h with rfl | h
    · omega
    · have := depth_mem h
      omega
theorem dep1 (d : D) : 1 ≤ depth d := by cases d <;> simp [depth]
/-- a promise of a truth -/
def spB (pre : List D → Prop) (f : List D → Bool) : Spec := ⟨fun ds _ => pre ds, fun ds M d M' => d = .bl (f ds) ∧ M' = M⟩
theorem callB {pre : List D → Prop} {f : List D → Bool} {ds : List D} {M : Mem} {Q : DK} (h : pre ds) (q : Q (.bl (f ds)) M) : (spB pre f).pre ds M ∧ ∀ d M', (spB pre f).post ds M d M' → Q d M' := by
  refine ⟨h, fun d M' p => ?_⟩
  obtain ⟨rfl, rfl⟩ := p
  exact q
theorem retB {pre : List D → Prop} {f : List D → Bool} {ds : List D} {M : Mem} {b : Bool} (h : b = f ds) : Ret (spB pre f) ds M (.bl b) M := Ret.now ⟨by rw [h], rfl⟩
/-! ### texts made of signs -/
def allIn (x s : Str) : Bool := x.cps.toList.all fun c => decide (c ∈ s.cps.toList)
def madeOf (d : D) (s : Str) (m : Int) : Bool := match d with
  | .str x => decide (1 ≤ (x.length : Int)) && (decide ((x.length : Int) ≤ m) && allIn x s)
  | _ => false
def fMade : List D → Bool
  | [d, .str s, .int m] => madeOf d s m
  | _ => false
def sp_made : Spec := spB (fun ds => ∃ d s m, ds = [d, .str s, .int m] ∧ od 1000 d = true) fMade
theorem chars_eq (x : Str) : chars x = x.cps.toList.map fun c => D.str ⟨#[c]⟩ := rfl
theorem len_list (x : Str) : x.length = x.cps.toList.length := by
  show x.cps.size = _
  simp
theorem in_comp (M : Mem) (Q : DK) (ρ : Env) (s : Str) (r1 : ρ[1]? = some (some (.str s))) (r3 : 3 < ρ.length) : ∀ (cs : List Nat) (bs : List Bool), Q (.lst ((bs ++ cs.map fun c => decide (c ∈ s.cps.toList)).map D.bl)) M →
    dCompL (gName 3) dYes (dOp oIn (dV 3) (dV 1)) ρ (cs.map fun c => D.str ⟨#[c]⟩) (bs.map D.bl) M Q := by
  intro cs
  induction cs with
  | nil => intro bs q; simpa using q
  | cons c cs ih =>
    intro bs q
    have g1 : (ρ.set 3 (some (.str ⟨#[c]⟩)))[1]? = some (some (.str s)) := by rw [List.getElem?_set_ne (by decide)]; exact r1
    have g3 : (ρ.set 3 (some (.str ⟨#[c]⟩)))[3]? = some (some (.str ⟨#[c]⟩)) := by rw [List.getElem?_set_self r3]
    simp only [List.map_cons, dCompL, gName, dYes, if_true, dOp, dV, g1, g3, oIn, inB_str]
    refine ⟨c, rfl, ?_⟩
    have ea : bs.map D.bl ++ [D.bl (decide (c ∈ s.cps.toList))] = (bs ++ [decide (c ∈ s.cps.toList)]).map D.bl := by simp
    rw [ea]
    refine ih (bs ++ [decide (c ∈ s.cps.toList)]) ?_
    simpa [List.append_assoc] using q
theorem bools_map (bs : List Bool) : dBools (bs.map D.bl) = some bs := by
  induction bs with
  | nil => rfl
  | cons b bs ih => rw [List.map_cons, dBools_cons, ih]; rfl
theorem all_map (cs : List Nat) (f : Nat → Bool) : (cs.map f).all id = cs.all f := by
  induction cs with
  | nil => rfl
  | cons c cs ih => simp [ih]
theorem does_made_of : Does 4 t_is_made_of 3 sp_made := by
  rintro ds M hl ⟨d, s, m, rfl, ho⟩
  have fin : ∀ b, b = madeOf d s m → Ret sp_made [d, .str s, .int m] M (.bl b) M := fun b h => retB h
  cases d with
  | str x =>
    have hx := od_str ho
    have hx2 : x.length ≤ 100000 := by omega
    have f := fin _ rfl
    simp only [madeOf] at f
    by_cases h1 : 1 ≤ (x.length : Int)
    · by_cases h2 : (x.length : Int) ≤ m
      · have z := in_comp M (fun d M' => oAll d M' (Ret sp_made [.str x, .str s, .int m] M)) [some (.str x), some (.str s), some (.int m), none] s rfl (by simp) x.cps.toList [] (by
          simp only [List.nil_append, oAll_lst, bools_map, all_map]
          simp only [h1, h2, decide_true, Bool.true_and, allIn] at f
          exact f)
        simp [t_is_made_of, hx2, h1, h2, chars_eq] at z ⊢
        exact ⟨hx2, z⟩
      · simp [h1, h2] at f
        simp [t_is_made_of, hx2, h1, h2]
        exact f
    · simp [h1] at f
      have h1' : ¬ 1 ≤ x.length := by omega
      simp [t_is_made_of, hx2, h1', h1]
      exact f
  | tup xs => simpa [t_is_made_of] using fin false rfl
  | lst xs => simpa [t_is_made_of] using fin false rfl
  | non => simpa [t_is_made_of] using fin false rfl
  | bl b => simpa [t_is_made_of] using fin false rfl
  | int b => simpa [t_is_made_of] using fin false rfl
  | dK ks vs => simpa [t_is_made_of] using fin false rfl
  | _ => simp [od] at ho
/-! ### words -/
def taken : List Str := ["kind", "def", "either", "same", "truth"]
theorem g_taken : g_TAKEN = .tup (taken.map D.str) := rfl
def lts : Str := "abcdefghijklmnopqrstuvwxyz"
def fgs : Str := "0123456789"
def isW (d : D) : Bool := madeOf d lts 8 && (match d with
  | .str x => !decide (x ∈ taken)
  | _ => false)
def isN (d : D) : Bool := madeOf d fgs 3 && (match d with
  | .str x => (match x.cps.toList with
    | c :: _ => !decide (c = 48)
    | [] => false)
  | _ => false)
def f1 (f : D → Bool) : List D → Bool
  | [d] => f d
  | _ => false
def sp1 (f : D → Bool) : Spec := spB (fun ds => ∃ d, ds = [d] ∧ od 1000 d = true) (f1 f)
theorem call1 {f : D → Bool} {d : D} {M : Mem} {Q : DK} (h : od 1000 d = true) (q : Q (.bl (f d)) M) : (sp1 f).pre [d] M ∧ ∀ e M', (sp1 f).post [d] M e M' → Q e M' := callB (f := f1 f) ⟨d, rfl, h⟩ q
theorem call_made {d : D} {s : Str} {m : Int} {M : Mem} {Q : DK} (h : od 1000 d = true) (q : Q (.bl (madeOf d s m)) M) : sp_made.pre [d, .str s, .int m] M ∧ ∀ e M', sp_made.post [d, .str s, .int m] M e M' → Q e M' := callB (f := fMade) ⟨d, s, m, rfl, h⟩ q
theorem made_str {d : D} {s : Str} {m : Int} (h : madeOf d s m = true) : ∃ x, d = .str x := by
  cases d <;> simp [madeOf] at h
  exact ⟨_, rfl⟩
theorem does_is_word : Does 1 (t_is_word sp_made) 1 (sp1 isW) := by
  rintro ds M hl ⟨d, rfl, ho⟩
  have fin : ∀ b, b = isW d → Ret (sp1 isW) [d] M (.bl b) M := fun b h => retB h
  simp only [t_is_word, sRet, dAndV, dCall, dA, dA0, dV, dC, g_LETTERS, g_MOST_LETTERS, start, List.map, List.length, List.replicate, List.cons_append, List.nil_append, List.getElem?_cons_zero, List.getElem?_cons_succ]
  refine call_made ho ?_
  have el : (Str.ofString "abcdefghijklmnopqrstuvwxyz") = lts := rfl
  rw [el]
  cases e : madeOf d lts 8 with
  | false => simpa using fin false (by simp [isW, e])
  | true =>
    obtain ⟨x, rfl⟩ := made_str e
    have f := fin (!decide (x ∈ taken)) (by simp [isW, e])
    simp only [if_true, dOp, dV, dC, List.getElem?_cons_zero, oNotIn, g_taken, inB_tup, flat_str, all_flat, hasD_str, true_and]
    exact f
theorem does_is_new : Does 1 (t_is_new_name sp_made) 1 (sp1 isN) := by
  rintro ds M hl ⟨d, rfl, ho⟩
  have fin : ∀ b, b = isN d → Ret (sp1 isN) [d] M (.bl b) M := fun b h => retB h
  simp only [t_is_new_name, sRet, dAndV, dCall, dA, dA0, dV, dC, g_FIGURES, g_MOST_FIGURES, start, List.map, List.length, List.replicate, List.cons_append, List.nil_append, List.getElem?_cons_zero, List.getElem?_cons_succ]
  refine call_made ho ?_
  have el : (Str.ofString "0123456789") = fgs := rfl
  rw [el]
  cases e : madeOf d fgs 3 with
  | false => simpa using fin false (by simp [isN, e])
  | true =>
    obtain ⟨x, rfl⟩ := made_str e
    have hx := od_str ho
    cases hc : x.cps.toList with
    | nil =>
      simp only [madeOf, len_list, hc] at e
      simp at e
    | cons c cs =>
      have f := fin (!decide (c = 48)) (by simp [isN, e, hc])
      have e0 : (Str.ofString "0") = ⟨#[48]⟩ := by decide +kernel
      have e1 : ((⟨#[c]⟩ : Str) = ⟨#[48]⟩) = (c = 48) := by simp
      have hx2 : x.length ≤ 100000 := by omega
      simp [hc, atI_zero, hx2, e0]
      simpa using f
/-! the law's own -/
theorem filt_in {s : Str} {c : Nat} {cs : List Nat} (h : c ∈ s.cps.toList) : (c :: cs).filter (fun c => !decide (c ∈ s.cps.toList)) = cs.filter fun c => !decide (c ∈ s.cps.toList) :=
  List.filter_cons_of_neg (by show ¬ (!decide (c ∈ s.cps.toList)) = true; rw [decide_eq_true h]; decide)
theorem filt_out {s : Str} {c : Nat} {cs : List Nat} (h : ¬ c ∈ s.cps.toList) : (c :: cs).filter (fun c => !decide (c ∈ s.cps.toList)) = c :: cs.filter fun c => !decide (c ∈ s.cps.toList) :=
  List.filter_cons_of_pos (by show (!decide (c ∈ s.cps.toList)) = true; rw [decide_eq_false h]; rfl)
theorem out_comp (M : Mem) (Q : DK) (ρ : Env) (s : Str) (r1 : 1 < ρ.length) : ∀ (cs acc : List Nat), Q (.lst ((acc ++ cs.filter fun c => !decide (c ∈ s.cps.toList)).map fun c => D.str ⟨#[c]⟩)) M →
    dCompL (gName 1) (dTest (dOp oNotIn (dV 1) (dC (.str s)))) (dV 1) ρ (cs.map fun c => D.str ⟨#[c]⟩) (acc.map fun c => D.str ⟨#[c]⟩) M Q := by
  intro cs
  induction cs with
  | nil => intro acc q; simpa using q
  | cons c cs ih =>
    intro acc q
    have g1 : (ρ.set 1 (some (.str ⟨#[c]⟩)))[1]? = some (some (.str ⟨#[c]⟩)) := by rw [List.getElem?_set_self r1]
    simp only [List.map_cons, dCompL, gName, dTest, dOp, dV, dC, g1, oNotIn, inB_str]
    refine ⟨c, rfl, ?_⟩
    by_cases h : c ∈ s.cps.toList
    · simp only [h, decide_true, Bool.not_true]
      rw [if_neg (by decide)]
      rw [filt_in h] at q
      exact ih acc q
    · simp only [h, decide_false, Bool.not_false, if_true]
      have ea : acc.map (fun c => D.str ⟨#[c]⟩) ++ [D.str ⟨#[c]⟩] = (acc ++ [c]).map fun c => D.str ⟨#[c]⟩ := by simp
      rw [ea]
      rw [filt_out h] at q
      refine ih (acc ++ [c]) ?_
      rw [List.append_assoc]
      exact q
theorem strs_cmp {x : Str} (h : strOk x = true) (f : Nat → Bool) : cmpOk (.lst ((x.cps.toList.filter f).map fun c => D.str ⟨#[c]⟩)) = true := by
  have key : ∀ l : List Nat, (∀ c ∈ l, c < 0x110000) → plains (l.map fun c => D.str ⟨#[c]⟩) = true ∧ depths (l.map fun c => D.str ⟨#[c]⟩) ≤ 1 := by
    intro l
    induction l with
    | nil => intro _; simp [plains, depths]
    | cons c l ih =>
      intro h
      obtain ⟨h1, h2⟩ := ih fun y hy => h y (List.mem_cons_of_mem _ hy)
      have hc := h c (by simp)
      constructor
      · simp only [List.map_cons, plains, plain, h1, Bool.and_true]
        simp [strOk]; omega
      · simp only [List.map_cons, depths, depth]; omega
  obtain ⟨h1, h2⟩ := key (x.cps.toList.filter f) (by
    intro c hc
    have hc' := (List.mem_filter.mp hc).1
    unfold strOk at h
    rw [← Array.all_toList, List.all_eq_true] at h
    simpa using h c hc')
  simp only [cmpOk, plain, h1, Bool.true_and]
  refine decide_eq_true ?_
  simp only [depth]; omega
theorem cmp_nil : cmpOk (.lst []) = true := by decide +kernel
theorem eqvs_filter (x s : Str) : eqvs ((x.cps.toList.filter fun c => !decide (c ∈ s.cps.toList)).map fun c => D.str ⟨#[c]⟩) [] = allIn x s := by
  unfold allIn
  induction x.cps.toList with
  | nil => simp
  | cons c l ih =>
    by_cases h : c ∈ s.cps.toList
    · rw [filt_in h, ih, List.all_cons, decide_eq_true h, Bool.true_and]
    · rw [filt_out h, List.all_cons, decide_eq_false h, Bool.false_and, List.map_cons, eqvs_cn]
theorem does_law_is_word : Does 2 t__law_is_word 1 (sp1 isW) := by
  rintro ds M hl ⟨d, rfl, ho⟩
  have fin : ∀ b, b = isW d → Ret (sp1 isW) [d] M (.bl b) M := fun b h => retB h
  cases d with
  | str x =>
    have hx := od_str ho
    have hx2 : x.length ≤ 100000 := by omega
    by_cases h1 : 1 ≤ (x.length : Int)
    · by_cases h2 : (x.length : Int) ≤ 8
      · have et : D.lst [.str "kind", .str "def", .str "either", .str "same", .str "truth"] = .lst (taken.map D.str) := rfl
        by_cases h3 : x ∈ taken
        · have f := fin false (by simp [isW, h3])
          have z : sIf (dTest (dOp oIn (dV 0) (dC (.lst (taken.map D.str))))) (sRet (dC (.bl false))) sNext { nx := fun ρ M' => (sRet (dOp oEq (dComp (iSeq (dV 0)) (gName 1) (dTest (dOp oNotIn (dV 1) (dC (.str "abcdefghijklmnopqrstuvwxyz")))) (dV 1) [1]) (dLst dA0))) { nx := fun _ M' => Ret (sp1 isW) [.str x] M .non M', rt := Ret (sp1 isW) [.str x] M } ρ M', rt := Ret (sp1 isW) [.str x] M } [some (.str x), none] M := by
            simp only [sIf, dTest, dOp, dV, dC, oIn, List.getElem?_cons_zero, inB_lst, flat_str, all_flat, hasD_str, true_and, h3, decide_true, if_true, sRet]
            exact f
          simp [t__law_is_word, hx2, h1, h2, et, -hasD_cons] at z ⊢
          exact z
        · have f := fin (allIn x lts) (by simp [isW, madeOf, h1, h2, h3])
          have zc := out_comp M (fun d M' => eqB d (.lst []) M' fun b M1 => Ret (sp1 isW) [.str x] M (.bl b) M1) [some (.str x), none] lts (by simp) x.cps.toList [] (by
            simp only [List.nil_append, eqB_lst_lst, asC, strs_cmp hx.1, cmp_nil, true_and, eqv_lst, eqvs_filter]
            exact f)
          have z : sIf (dTest (dOp oIn (dV 0) (dC (.lst (taken.map D.str))))) (sRet (dC (.bl false))) sNext { nx := fun ρ M' => (sRet (dOp oEq (dComp (iSeq (dV 0)) (gName 1) (dTest (dOp oNotIn (dV 1) (dC (.str "abcdefghijklmnopqrstuvwxyz")))) (dV 1) [1]) (dLst dA0))) { nx := fun _ M' => Ret (sp1 isW) [.str x] M .non M', rt := Ret (sp1 isW) [.str x] M } ρ M', rt := Ret (sp1 isW) [.str x] M } [some (.str x), none] M := by
            simp only [sIf, dTest, dOp, dV, dC, oIn, List.getElem?_cons_zero, inB_lst, flat_str, all_flat, hasD_str, true_and, h3, decide_false]
            rw [if_neg (by decide)]
            refine ⟨?_, zc⟩
            rw [chars_eq, List.length_map, ← len_list]
            exact hx2
          show sSeq _ _ _ _ _
          simp only [t__law_is_word, sSeq]
          have c1 : ∀ (E : DEnds) (q : E.nx [some (.str x), none] M), sIf (dOr (dNot (dTest (dUn (oIsi "str") (dV 0)))) (dNot (dTest (dChain oLe oLe (dC (.int 1)) (dUn oLen (dV 0)) (dC (.int 8)))))) (sRet (dC (.bl false))) sNext E [some (.str x), none] M := by
            intro E q
            simp [hx2, h1, h2]
            exact q
          exact c1 _ z
      · have f := fin false (by simp [isW, madeOf, h2])
        simp [t__law_is_word, hx2, h1, h2]
        exact f
    · have f := fin false (by simp [isW, madeOf, h1])
      simp [t__law_is_word, hx2, h1]
      exact f
  | tup xs => simpa [t__law_is_word] using fin false (by simp [isW, madeOf])
  | lst xs => simpa [t__law_is_word] using fin false (by simp [isW, madeOf])
  | non => simpa [t__law_is_word] using fin false (by simp [isW, madeOf])
  | bl b => simpa [t__law_is_word] using fin false (by simp [isW, madeOf])
  | int b => simpa [t__law_is_word] using fin false (by simp [isW, madeOf])
  | dK ks vs => simpa [t__law_is_word] using fin false (by simp [isW, madeOf])
  | _ => simp [od] at ho
theorem does_law_is_new : Does 2 t__law_is_new 1 (sp1 isN) := by
  rintro ds M hl ⟨d, rfl, ho⟩
  have fin : ∀ b, b = isN d → Ret (sp1 isN) [d] M (.bl b) M := fun b h => retB h
  cases d with
  | str x =>
    have hx := od_str ho
    have hx2 : x.length ≤ 100000 := by omega
    by_cases h1 : 1 ≤ (x.length : Int)
    · by_cases h2 : (x.length : Int) ≤ 3
      · cases hc : x.cps.toList with
        | nil => rw [len_list, hc] at h1; simp at h1
        | cons c cs =>
          have e0 : (Str.ofString "0") = ⟨#[48]⟩ := by decide +kernel
          by_cases h3 : c = 48
          · have f := fin false (by simp [isN, hc, h3])
            simp [t__law_is_new, hx2, h1, h2, hc, atI_zero, e0, h3]
            exact f
          · have f := fin (allIn x fgs) (by simp [isN, madeOf, h1, h2, hc, h3])
            have zc := out_comp M (fun d M' => eqB d (.lst []) M' fun b M1 => Ret (sp1 isN) [.str x] M (.bl b) M1) [some (.str x), none] fgs (by simp) x.cps.toList [] (by
              simp only [List.nil_append, eqB_lst_lst, asC, strs_cmp hx.1, cmp_nil, true_and, eqv_lst, eqvs_filter]
              exact f)
            have z : sRet (dOp oEq (dComp (iSeq (dV 0)) (gName 1) (dTest (dOp oNotIn (dV 1) (dC (.str "0123456789")))) (dV 1) [1]) (dLst dA0)) { nx := fun _ M' => Ret (sp1 isN) [.str x] M .non M', rt := Ret (sp1 isN) [.str x] M } [some (.str x), none] M := by
              refine ⟨?_, zc⟩
              rw [chars_eq, List.length_map, ← len_list]
              exact hx2
            simp only [t__law_is_new, sSeq]
            have c1 : ∀ (E : DEnds) (q : E.nx [some (.str x), none] M), sIf (dOr (dNot (dTest (dUn (oIsi "str") (dV 0)))) (dOr (dNot (dTest (dChain oLe oLe (dC (.int 1)) (dUn oLen (dV 0)) (dC (.int 3))))) (dTest (dOp oEq (dOp oIx (dV 0) (dC (.int 0))) (dC (.str "0")))))) (sRet (dC (.bl false))) sNext E [some (.str x), none] M := by
              intro E q
              simp [hx2, h1, h2, hc, atI_zero, e0, h3]
              exact q
            exact c1 _ z
      · have f := fin false (by simp [isN, madeOf, h2])
        simp [t__law_is_new, hx2, h1, h2]
        exact f
    · have f := fin false (by simp [isN, madeOf, h1])
      simp [t__law_is_new, hx2, h1]
      exact f
  | tup xs => simpa [t__law_is_new] using fin false (by simp [isN, madeOf])
  | lst xs => simpa [t__law_is_new] using fin false (by simp [isN, madeOf])
  | non => simpa [t__law_is_new] using fin false (by simp [isN, madeOf])
  | bl b => simpa [t__law_is_new] using fin false (by simp [isN, madeOf])
  | int b => simpa [t__law_is_new] using fin false (by simp [isN, madeOf])
  | dK ks vs => simpa [t__law_is_new] using fin false (by simp [isN, madeOf])
  | _ => simp [od] at ho
/-! ### rows and heads -/
def row (d : D) (most least : Int) : Bool := match d with
  | .tup xs => decide (least ≤ (xs.length : Int)) && decide ((xs.length : Int) ≤ most)
  | _ => false
def fRow : List D → Bool
  | [d, .int m, .int l] => row d m l
  | _ => false
def sp_row : Spec := spB (fun ds => ∃ d m l, ds = [d, .int m, .int l] ∧ od 1000 d = true) fRow
theorem call_row {d : D} {m l : Int} {M : Mem} {Q : DK} (h : od 1000 d = true) (q : Q (.bl (row d m l)) M) : sp_row.pre [d, .int m, .int l] M ∧ ∀ e M', sp_row.post [d, .int m, .int l] M e M' → Q e M' := callB (f := fRow) ⟨d, m, l, rfl, h⟩ q
theorem does_is_row : Does 3 t_is_row 3 sp_row := by
  rintro ds M hl ⟨d, m, l, rfl, ho⟩
  have fin : ∀ b, b = row d m l → Ret sp_row [d, .int m, .int l] M (.bl b) M := fun b h => retB h
  cases d with
  | tup xs =>
    by_cases h1 : l ≤ (xs.length : Int)
    · have f := fin (decide ((xs.length : Int) ≤ m)) (by simp [row, h1])
      simp [t_is_row, h1]
      exact f
    · have f := fin false (by simp [row, h1])
      simp [t_is_row, h1]
      exact f
  | str xs => simpa [t_is_row] using fin false rfl
  | lst xs => simpa [t_is_row] using fin false rfl
  | non => simpa [t_is_row] using fin false rfl
  | bl b => simpa [t_is_row] using fin false rfl
  | int b => simpa [t_is_row] using fin false rfl
  | dK ks vs => simpa [t_is_row] using fin false rfl
  | _ => simp [od] at ho
def headed (d : D) (w : Str) (k : Int) : Bool := row d k k && (match d with
  | .tup (.str h :: _) => decide (h = w)
  | _ => false)
def fHead : List D → Bool
  | [d, .str w, .int k] => headed d w k
  | _ => false
def sp_head : Spec := spB (fun ds => ∃ d w k, ds = [d, .str w, .int k] ∧ od 1000 d = true ∧ 1 ≤ k) fHead
theorem call_head {d : D} {w : Str} {k : Int} {M : Mem} {Q : DK} (h : od 1000 d = true) (hk : 1 ≤ k) (q : Q (.bl (headed d w k)) M) : sp_head.pre [d, .str w, .int k] M ∧ ∀ e M', sp_head.post [d, .str w, .int k] M e M' → Q e M' := callB (f := fHead) ⟨d, w, k, rfl, h, hk⟩ q
theorem row_tup {d : D} {m l : Int} (h : row d m l = true) : ∃ xs, d = .tup xs ∧ l ≤ (xs.length : Int) := by
  cases d <;> simp [row] at h
  exact ⟨_, rfl, h.1⟩
theorem od_ty {m : Nat} {d : D} {M : Mem} (h : od m d = true) : tyOf M d ≠ "" := by
  cases d <;> simp [od] at h <;> simp
theorem od_head {m : Nat} {x : D} {xs : List D} (h : od m (.tup (x :: xs)) = true) : od m x = true := (od_tup h).2 x (by simp)
theorem does_is_headed : Does 3 (t_is_headed sp_row) 3 sp_head := by
  rintro ds M hl ⟨d, w, k, rfl, ho, hk⟩
  have fin : ∀ b, b = headed d w k → Ret sp_head [d, .str w, .int k] M (.bl b) M := fun b h => retB h
  simp only [t_is_headed, sRet, dAndV, dCall, dA, dA0, dV, start, List.map, List.length, List.replicate, List.cons_append, List.nil_append, List.getElem?_cons_zero, List.getElem?_cons_succ]
  refine call_row ho ?_
  cases e : row d k k with
  | false => simpa using fin false (by simp [headed, e])
  | true =>
    obtain ⟨xs, rfl, hx⟩ := row_tup e
    cases xs with
    | nil => simp at hx; omega
    | cons x xs =>
      have hox := od_head ho
      simp only [if_true, dUn, dOp, dV, dC, List.getElem?_cons_zero, List.getElem?_cons_succ, oIx_tup, atI_zero, oIsi]
      refine ⟨od_ty hox, ?_⟩
      cases x with
      | str h =>
        have f := fin (decide (h = w)) (by simp [headed, e])
        simp
        exact f
      | tup ys => simpa using fin false (by simp [headed])
      | lst ys => simpa using fin false (by simp [headed])
      | non => simpa using fin false (by simp [headed])
      | bl b => simpa using fin false (by simp [headed])
      | int b => simpa using fin false (by simp [headed])
      | dK ks vs => simpa using fin false (by simp [headed])
      | _ => simp [od] at hox
def named (d : D) : Bool := headed d "name" 2 && (match d with
  | .tup [_, y] => isW y || isN y
  | _ => false)
theorem headed_tup {d : D} {w : Str} {k : Int} (h : headed d w k = true) : ∃ xs, d = .tup (.str w :: xs) ∧ ((xs.length : Int) + 1 = k) := by
  simp only [headed, Bool.and_eq_true] at h
  obtain ⟨h1, h2⟩ := h
  split at h2
  · rename_i x xs
    simp only [row, Bool.and_eq_true, decide_eq_true_eq, List.length_cons] at h1
    have e := of_decide_eq_true h2
    subst e
    exact ⟨xs, rfl, by push_cast at h1; omega⟩
  · cases h2
theorem does_is_named : Does 1 (t_is_named sp_head (sp1 isW) (sp1 isN)) 1 (sp1 named) := by
  rintro ds M hl ⟨d, rfl, ho⟩
  have fin : ∀ b, b = named d → Ret (sp1 named) [d] M (.bl b) M := fun b h => retB h
  simp only [t_is_named, sRet, dAndV, dOrV, dCall, dA, dA0, dV, dC, start, List.map, List.length, List.replicate, List.cons_append, List.nil_append, List.getElem?_cons_zero, List.getElem?_cons_succ]
  refine call_head ho (by decide) ?_
  cases e : headed d "name" 2 with
  | false => simpa using fin false (by simp [named, e])
  | true =>
    obtain ⟨xs, rfl, hx⟩ := headed_tup e
    obtain ⟨y, rfl⟩ : ∃ y, xs = [y] := by
      match xs, hx with
      | [y], _ => exact ⟨y, rfl⟩
      | [], h => simp at h
      | _ :: _ :: _, h => simp at h; omega
    have hoy := (od_tup ho).2 y (by simp)
    have i1 : atI [D.str "name", y] 1 = some y := rfl
    simp only [if_true, dOp, dV, dC, List.getElem?_cons_zero, oIx_tup, i1]
    refine call1 hoy ?_
    cases ew : isW y with
    | true => simpa using fin true (by simp [named, e, ew])
    | false =>
      simp only [Bool.false_eq_true, if_false]
      refine call1 hoy ?_
      exact fin (isN y) (by simp [named, e, ew])
def built (d : D) (w : Str) : Bool := headed d w 3 && (match d with
  | .tup [_, y, z] => isW y && row z 3 0
  | _ => false)
def fBuilt : List D → Bool
  | [d, .str w] => built d w
  | _ => false
def sp_built : Spec := spB (fun ds => ∃ d w, ds = [d, .str w] ∧ od 1000 d = true) fBuilt
theorem call_built {d : D} {w : Str} {M : Mem} {Q : DK} (h : od 1000 d = true) (q : Q (.bl (built d w)) M) : sp_built.pre [d, .str w] M ∧ ∀ e M', sp_built.post [d, .str w] M e M' → Q e M' := callB (f := fBuilt) ⟨d, w, rfl, h⟩ q
theorem three {xs : List D} (hx : (xs.length : Int) + 1 = 3) : ∃ y z, xs = [y, z] := by
  match xs, hx with
  | [y, z], _ => exact ⟨y, z, rfl⟩
  | [], h => simp at h
  | [_], h => simp at h
  | _ :: _ :: _ :: _, h => simp at h; omega
theorem does_is_built : Does 2 (t_is_built sp_head (sp1 isW) sp_row) 2 sp_built := by
  rintro ds M hl ⟨d, w, rfl, ho⟩
  have fin : ∀ b, b = built d w → Ret sp_built [d, .str w] M (.bl b) M := fun b h => retB h
  simp only [t_is_built, sRet, dAndV, dCall, dCallD, dA, dA0, dV, dC, g_MOST_PARTS, start, List.map, List.length, List.replicate, List.cons_append, List.nil_append, List.getElem?_cons_zero, List.getElem?_cons_succ]
  refine call_head ho (by decide) ?_
  cases e : headed d w 3 with
  | false => simpa using fin false (by simp [built, e])
  | true =>
    obtain ⟨xs, rfl, hx⟩ := headed_tup e
    obtain ⟨y, z, rfl⟩ := three hx
    have hoy := (od_tup ho).2 y (by simp)
    have hoz := (od_tup ho).2 z (by simp)
    have i1 : atI [D.str w, y, z] 1 = some y := rfl
    have i2 : atI [D.str w, y, z] 2 = some z := rfl
    simp only [if_true, dOp, dV, dC, List.getElem?_cons_zero, oIx_tup, i1, i2]
    refine call1 hoy ?_
    cases ew : isW y with
    | false => simpa using fin false (by simp [built, ew])
    | true =>
      simp only [if_true]
      refine call_row hoz ?_
      exact fin (row z 3 0) (by simp [built, e, ew])
/-! ### the whole form -/
def partsD : D → List D
  | .tup ps => ps
  | _ => []
def isL (hs : List Str) : Nat → D → Bool
  | 0, _ => false
  | n + 1, d => match d with
    | .tup [.str h] => decide (h ∈ hs) && decide (h = "skip")
    | .tup [.str h, y] => decide (h ∈ hs) && (decide (h = "name") && (isW y || isN y))
    | .tup [.str h, y, z] => decide (h ∈ hs) && (if h = "either" ∨ h = "same" then isL hs n y && isL hs n z else if h = "made" ∨ h = "call" then isW y && (row z 3 0 && (partsD z).all (isL hs n)) else false)
    | _ => false
theorem isL_one (hs : List Str) (n : Nat) (h : Str) : isL hs (n + 1) (.tup [.str h]) = (decide (h ∈ hs) && decide (h = "skip")) := rfl
theorem isL_two (hs : List Str) (n : Nat) (h : Str) (y : D) : isL hs (n + 1) (.tup [.str h, y]) = (decide (h ∈ hs) && (decide (h = "name") && (isW y || isN y))) := rfl
theorem isL_three (hs : List Str) (n : Nat) (h : Str) (y z : D) : isL hs (n + 1) (.tup [.str h, y, z]) = (decide (h ∈ hs) && (if h = "either" ∨ h = "same" then isL hs n y && isL hs n z else if h = "made" ∨ h = "call" then isW y && (row z 3 0 && (partsD z).all (isL hs n)) else false)) := rfl
structure Dead (d : D) : Prop where
  h : ∀ (w : Str) (k : Int), 1 ≤ k → k ≤ 3 → headed d w k = false
  l : ∀ (hs : List Str) (n : Nat), isL hs n d = false
theorem shape (d : D) : Dead d ∨ (∃ h, d = .tup [.str h]) ∨ (∃ h y, d = .tup [.str h, y]) ∨ ∃ h y z, d = .tup [.str h, y, z] := by
  have noHead : (∀ h r, d ≠ .tup (.str h :: r)) → Dead d := by
    intro nh
    refine ⟨fun w k _ _ => ?_, fun hs n => ?_⟩
    · unfold headed
      split
      · exact (nh _ _ rfl).elim
      · simp
    · cases n with
      | zero => rfl
      | succ n =>
        unfold isL
        split
        · exact (nh _ _ rfl).elim
        · exact (nh _ _ rfl).elim
        · exact (nh _ _ rfl).elim
        · rfl
  by_cases q : ∃ h r, d = .tup (.str h :: r)
  · obtain ⟨h, r, rfl⟩ := q
    match r with
    | [] => exact .inr (.inl ⟨h, rfl⟩)
    | [y] => exact .inr (.inr (.inl ⟨h, y, rfl⟩))
    | [y, z] => exact .inr (.inr (.inr ⟨h, y, z, rfl⟩))
    | a :: b :: c :: r =>
      refine .inl ⟨fun w k h1 h2 => ?_, fun hs n => ?_⟩
      · simp only [headed, row, List.length_cons]
        have : ¬ ((((r.length + 1 + 1 + 1 + 1 : Nat)) : Int) ≤ k) := by omega
        simp [this]
        intro _ h3
        omega
      · cases n with
        | zero => rfl
        | succ n => rfl
  · exact .inl (noHead fun h r e => q ⟨h, r, e⟩)
def spD (f : D → Bool) (n : Nat) : Spec := spB (fun ds => ∃ d, ds = [d] ∧ od 1000 d = true ∧ depth d ≤ n) (f1 f)
theorem callD {f : D → Bool} {n : Nat} {d : D} {M : Mem} {Q : DK} (h : od 1000 d = true) (hd : depth d ≤ n) (q : Q (.bl (f d)) M) : (spD f n).pre [d] M ∧ ∀ e M', (spD f n).post [d] M e M' → Q e M' := callB (f := f1 f) ⟨d, rfl, h, hd⟩ q
theorem spD_none (f : Nat → D → Bool) (ds : List D) (M : Mem) : ¬ (spD (f 0) 0).pre ds M := by
  rintro ⟨d, _, _, h⟩
  have := dep1 d
  omega
theorem all_comp (f : D → Bool) (n : Nat) (M : Mem) (Q : DK) (ρ : Env) (r1 : 1 < ρ.length) : ∀ (ps : List D) (bs : List Bool), (∀ p ∈ ps, od 1000 p = true ∧ depth p ≤ n) → Q (.lst ((bs ++ ps.map f).map D.bl)) M →
    dCompL (gName 1) dYes (dCall (spD f n) (dA (dV 1) dA0)) ρ ps (bs.map D.bl) M Q := by
  intro ps
  induction ps with
  | nil => intro bs _ q; simpa using q
  | cons p ps ih =>
    intro bs h q
    have hp := h p (by simp)
    have g1 : (ρ.set 1 (some p))[1]? = some (some p) := by rw [List.getElem?_set_self r1]
    simp only [dCompL, gName, dYes, if_true, dCall, dA, dV, dA0, g1]
    refine callD hp.1 hp.2 ?_
    have ea : bs.map D.bl ++ [D.bl (f p)] = (bs ++ [f p]).map D.bl := by simp
    rw [ea]
    refine ih (bs ++ [f p]) (fun y hy => h y (List.mem_cons_of_mem _ hy)) ?_
    simpa [List.append_assoc] using q
theorem all_mapD (ps : List D) (f : D → Bool) : (ps.map f).all id = ps.all f := by
  induction ps with
  | nil => rfl
  | cons c cs ih => simp [ih]
/-- all([f(part) for part in thing[2]]) -/
theorem all_parts (f : D → Bool) (n : Nat) (M : Mem) (Q : DK) (h : Str) (y : D) (ps : List D) (o1 : Option D) (ho : od 1000 (.tup ps) = true) (hd : depths ps ≤ n) (q : Q (.bl (ps.all f)) M) :
    dUn oAll (dComp (iSeq (dOp oIx (dV 0) (dC (.int 2)))) (gName 1) dYes (dCall (spD f n) (dA (dV 1) dA0)) [1]) [some (.tup [.str h, y, .tup ps]), o1] M Q := by
  have hp := od_tup ho
  have i2 : atI [D.str h, y, .tup ps] 2 = some (.tup ps) := rfl
  have z := all_comp f n M (fun d M' => oAll d M' Q) [some (.tup [.str h, y, .tup ps]), none] (by simp) ps [] (fun p hq => ⟨hp.2 p hq, Nat.le_trans (depth_mem hq) hd⟩) (by
    simp only [List.nil_append, oAll_lst, bools_map, all_mapD]
    exact q)
  simp only [dUn, dComp, iSeq, dOp, dV, dC, List.getElem?_cons_zero, oIx_tup, i2, wipe, List.set]
  exact ⟨by have := hp.1; omega, z⟩
theorem hd1 (h w : Str) : headed (.tup [.str h]) w 1 = decide (h = w) := by simp [headed, row]
theorem hd1' (h w : Str) {k : Int} (hk : 2 ≤ k) : headed (.tup [.str h]) w k = false := by
  have : ¬ (k ≤ 1) := by omega
  simp [headed, row, this]
theorem hd2 (h w : Str) (y : D) : headed (.tup [.str h, y]) w 2 = decide (h = w) := by simp [headed, row]
theorem hd2' (h w : Str) (y : D) {k : Int} (hk : k ≠ 2) : headed (.tup [.str h, y]) w k = false := by
  have : ¬ (k ≤ 2 ∧ 2 ≤ k) := by omega
  simp only [headed, row]
  simp
  intro h1 h2
  omega
theorem hd3 (h w : Str) (y z : D) : headed (.tup [.str h, y, z]) w 3 = decide (h = w) := by simp [headed, row]
theorem hd3' (h w : Str) (y z : D) {k : Int} (hk : k ≠ 3) : headed (.tup [.str h, y, z]) w k = false := by
  simp only [headed, row]
  simp
  intro h1 h2
  omega
theorem row_parts {z : D} (h : row z 3 0 = true) : ∃ ps, z = .tup ps := by
  obtain ⟨ps, rfl, _⟩ := row_tup h
  exact ⟨ps, rfl⟩
theorem six_of {h : Str} (a : h = "name" ∨ h = "made" ∨ h = "call" ∨ h = "either" ∨ h = "same" ∨ h = "skip") : h ∈ six := by
  simp only [six, List.mem_cons, List.not_mem_nil, or_false]
  exact a
abbrev isS (n : Nat) : D → Bool := isL six n
theorem does_saying (n : Nat) : Does 2 (t_is_saying sp_head (spD (isS n) n) sp_built (sp1 named)) 1 (spD (isS (n + 1)) (n + 1)) := by
  rintro ds M hl ⟨d, rfl, ho, hd⟩
  have fin : ∀ b, b = isS (n + 1) d → Ret (spD (isS (n + 1)) (n + 1)) [d] M (.bl b) M := fun b h => retB h
  simp only [t_is_saying, sSeq, sIf, sRet, sNext, dOr, dTest, dCall, dA, dA0, dV, dC, start, List.map, List.length, List.replicate, List.cons_append, List.nil_append, List.getElem?_cons_zero, List.getElem?_cons_succ]
  refine call1 ho ?_
  rcases shape d with D0 | ⟨h, rfl⟩ | ⟨h, y, rfl⟩ | ⟨h, y, z, rfl⟩
  · have f := fin false (D0.l _ _).symm
    have hn : named d = false := by simp [named, D0.h]
    have hb : ∀ w, built d w = false := fun w => by simp [built, D0.h]
    rw [hn]
    simp only [Bool.false_eq_true, if_false]
    refine call_head ho (by decide) ?_
    rw [D0.h _ _ (by decide) (by decide)]
    simp only [Bool.false_eq_true, if_false]
    refine call_built ho ?_
    rw [hb]
    simp only [Bool.false_eq_true, if_false]
    refine call_built ho ?_
    rw [hb]
    simp only [Bool.false_eq_true, if_false]
    refine call_head ho (by decide) ?_
    rw [D0.h _ _ (by decide) (by decide)]
    simp only [Bool.false_eq_true, if_false]
    refine call_head ho (by decide) ?_
    rw [D0.h _ _ (by decide) (by decide)]
    simp only [Bool.false_eq_true, if_false]
    exact f
  · have hn : named (.tup [.str h]) = false := by simp [named]
    have hb : ∀ w, built (.tup [.str h]) w = false := fun w => by simp [built]
    rw [hn]
    simp only [Bool.false_eq_true, if_false]
    refine call_head ho (by decide) ?_
    rw [hd1]
    by_cases e : h = "skip"
    · rw [decide_eq_true e]
      simp only [if_true]
      exact fin true (by subst e; simp [isL_one, six])
    · rw [decide_eq_false e]
      simp only [Bool.false_eq_true, if_false]
      refine call_built ho ?_
      rw [hb]
      simp only [Bool.false_eq_true, if_false]
      refine call_built ho ?_
      rw [hb]
      simp only [Bool.false_eq_true, if_false]
      refine call_head ho (by decide) ?_
      rw [hd1' _ _ (by decide)]
      simp only [Bool.false_eq_true, if_false]
      refine call_head ho (by decide) ?_
      rw [hd1' _ _ (by decide)]
      simp only [Bool.false_eq_true, if_false]
      exact fin false (by simp [isL_one, e])
  · have hn : named (.tup [.str h, y]) = (decide (h = "name") && (isW y || isN y)) := by simp [named, hd2]
    have hb : ∀ w, built (.tup [.str h, y]) w = false := fun w => by simp [built]
    rw [hn]
    by_cases e : (decide (h = "name") && (isW y || isN y)) = true
    · rw [e]
      simp only [if_true]
      have e1 : h = "name" := by simp at e; exact e.1
      exact fin true (by show _ = isL six (n + 1) _; rw [isL_two, e]; subst e1; simp [six])
    · have e' : (decide (h = "name") && (isW y || isN y)) = false := by simpa using e
      rw [e']
      simp only [Bool.false_eq_true, if_false]
      refine call_head ho (by decide) ?_
      rw [hd2' _ _ _ (by decide)]
      simp only [Bool.false_eq_true, if_false]
      refine call_built ho ?_
      rw [hb]
      simp only [Bool.false_eq_true, if_false]
      refine call_built ho ?_
      rw [hb]
      simp only [Bool.false_eq_true, if_false]
      refine call_head ho (by decide) ?_
      rw [hd2' _ _ _ (by decide)]
      simp only [Bool.false_eq_true, if_false]
      refine call_head ho (by decide) ?_
      rw [hd2' _ _ _ (by decide)]
      simp only [Bool.false_eq_true, if_false]
      exact fin false (by show _ = isL six (n + 1) _; rw [isL_two, e']; simp)
  · have hn : named (.tup [.str h, y, z]) = false := by simp [named]
    have hb : ∀ w, built (.tup [.str h, y, z]) w = (decide (h = w) && (isW y && row z 3 0)) := fun w => by simp [built, hd3]
    have hoy := (od_tup ho).2 y (by simp)
    have hoz := (od_tup ho).2 z (by simp)
    simp only [depth, depths] at hd
    have i1 : atI [D.str h, y, z] 1 = some y := rfl
    have i2 : atI [D.str h, y, z] 2 = some z := rfl
    rw [hn]
    simp only [Bool.false_eq_true, if_false]
    refine call_head ho (by decide) ?_
    rw [hd3' _ _ _ _ (by decide)]
    simp only [Bool.false_eq_true, if_false]
    refine call_built ho ?_
    rw [hb]
    -- the parts of a made, a call
    have parts : ∀ (hq : h = "made" ∨ h = "call") (e2 : (isW y && row z 3 0) = true), dUn oAll (dComp (iSeq (dOp oIx (dV 0) (dC (.int 2)))) (gName 1) dYes (dCall (spD (isS n) n) (dA (dV 1) dA0)) [1]) [some (.tup [.str h, y, z]), none] M (Ret (spD (isS (n + 1)) (n + 1)) [.tup [.str h, y, z]] M) := by
      intro hq e2
      simp only [Bool.and_eq_true] at e2
      obtain ⟨ps, rfl⟩ := row_parts e2.2
      simp only [depth] at hd
      refine all_parts (isS n) n M _ h y ps none hoz (by omega) (fin _ ?_)
      show _ = isL six (n + 1) _
      rw [isL_three, e2.1, e2.2]
      have hne : ¬ (h = "either" ∨ h = "same") := by rcases hq with rfl | rfl <;> simp [ofString_inj]
      have h6 : h ∈ six := six_of (by rcases hq with rfl | rfl <;> simp)
      rw [if_neg hne, if_pos hq]
      simp [h6, partsD]
    by_cases e1 : (decide (h = "made") && (isW y && row z 3 0)) = true
    · rw [e1]
      simp only [if_true]
      simp only [Bool.and_eq_true, decide_eq_true_eq] at e1
      exact parts (.inl e1.1) (by simp [e1.2])
    · have e1' : (decide (h = "made") && (isW y && row z 3 0)) = false := by simpa using e1
      rw [e1']
      simp only [Bool.false_eq_true, if_false]
      refine call_built ho ?_
      rw [hb]
      by_cases e2 : (decide (h = "call") && (isW y && row z 3 0)) = true
      · rw [e2]
        simp only [if_true]
        simp only [Bool.and_eq_true, decide_eq_true_eq] at e2
        exact parts (.inr e2.1) (by simp [e2.2])
      · have e2' : (decide (h = "call") && (isW y && row z 3 0)) = false := by simpa using e2
        rw [e2']
        simp only [Bool.false_eq_true, if_false]
        refine call_head ho (by decide) ?_
        rw [hd3]
        have two : ∀ (hq : h = "either" ∨ h = "same"), dAndV (dCall (spD (isS n) n) (dA (dOp oIx (dV 0) (dC (.int 1))) dA0)) (dCall (spD (isS n) n) (dA (dOp oIx (dV 0) (dC (.int 2))) dA0)) [some (.tup [.str h, y, z]), none] M (Ret (spD (isS (n + 1)) (n + 1)) [.tup [.str h, y, z]] M) := by
          intro hq
          have h6 : h ∈ six := six_of (by rcases hq with rfl | rfl <;> simp)
          have ev : isS (n + 1) (.tup [.str h, y, z]) = (isS n y && isS n z) := by
            show isL six (n + 1) _ = _
            rw [isL_three, if_pos hq]
            simp [h6]
          simp only [dAndV, dCall, dA, dA0, dOp, dV, dC, List.getElem?_cons_zero, oIx_tup, i1, i2]
          refine callD hoy (by omega) ?_
          cases ey : isS n y with
          | false =>
            simp only [Bool.false_eq_true, if_false]
            exact fin false (by rw [ev, ey]; rfl)
          | true =>
            simp only [if_true]
            refine callD hoz (by omega) ?_
            exact fin _ (by rw [ev, ey]; rfl)
        by_cases e3 : h = "either"
        · rw [decide_eq_true e3]
          simp only [if_true]
          exact two (.inl e3)
        · rw [decide_eq_false e3]
          simp only [Bool.false_eq_true, if_false]
          refine call_head ho (by decide) ?_
          rw [hd3]
          by_cases e4 : h = "same"
          · rw [decide_eq_true e4]
            simp only [if_true]
            exact two (.inr e4)
          · rw [decide_eq_false e4]
            simp only [Bool.false_eq_true, if_false]
            refine fin false ?_
            show _ = isL six (n + 1) _
            rw [isL_three, if_neg (by simp [e3, e4])]
            by_cases hq : h = "made" ∨ h = "call"
            · rw [if_pos hq]
              have : (isW y && row z 3 0) = false := by
                rcases hq with rfl | rfl
                · simpa using e1'
                · simpa using e2'
              rw [← Bool.and_assoc (isW y), this]
              simp
            · rw [if_neg hq]
              simp
abbrev sp_say (n : Nat) : Spec := spD (isS n) n
theorem say_none (ds : List D) (M : Mem) : ¬ (sp_say 0).pre ds M := spD_none (fun n => isS n) ds M
def hsT : List Str := ["name", "made"]
def hsP : List Str := ["made"]
abbrev isT (n : Nat) : D → Bool := isL hsT n
abbrev isP (n : Nat) : D → Bool := isL hsP n
theorem built_dead {d : D} (D0 : Dead d) (w : Str) : built d w = false := by simp [built, D0.h]
theorem built_three {h : Str} {y z : D} (w : Str) : built (.tup [.str h, y, z]) w = (decide (h = w) && (isW y && row z 3 0)) := by simp [built, hd3]
/-- what the thing's parts tell, where it is built by "made" -/
theorem isL_built {hs : List Str} {n : Nat} {h : Str} {y z : D} (hm : ("made" : Str) ∈ hs) (e : built (.tup [.str h, y, z]) "made" = true) : h = "made" ∧ ∃ ps, z = .tup ps ∧ isL hs (n + 1) (.tup [.str h, y, z]) = ps.all (isL hs n) := by
  rw [built_three] at e
  simp only [Bool.and_eq_true, decide_eq_true_eq] at e
  obtain ⟨rfl, e1, e2⟩ := e
  obtain ⟨ps, rfl⟩ := row_parts e2
  refine ⟨rfl, ps, rfl, ?_⟩
  rw [isL_three, if_neg (by simp [ofString_inj]), if_pos (.inl rfl), e1, e2]
  simp [hm, partsD]
theorem does_thing (n : Nat) : Does 2 (t_is_thing (sp1 named) sp_built (spD (isT n) n)) 1 (spD (isT (n + 1)) (n + 1)) := by
  rintro ds M hl ⟨d, rfl, ho, hd⟩
  have fin : ∀ b, b = isL hsT (n + 1) d → Ret (spD (isT (n + 1)) (n + 1)) [d] M (.bl b) M := fun b h => retB h
  simp only [t_is_thing, sSeq, sIf, sRet, sNext, dTest, dCall, dA, dA0, dV, dC, start, List.map, List.length, List.replicate, List.cons_append, List.nil_append, List.getElem?_cons_zero, List.getElem?_cons_succ]
  refine call_built ho ?_
  rcases shape d with D0 | ⟨h, rfl⟩ | ⟨h, y, rfl⟩ | ⟨h, y, z, rfl⟩
  · rw [built_dead D0]
    simp only [Bool.false_eq_true, if_false]
    refine call1 ho ?_
    exact fin _ (by rw [D0.l]; simp [named, D0.h])
  · have hb : built (.tup [.str h]) "made" = false := by simp [built]
    rw [hb]
    simp only [Bool.false_eq_true, if_false]
    refine call1 ho ?_
    refine fin _ ?_
    rw [isL_one]
    by_cases e : h = "skip"
    · subst e; simp [named, hsT, ofString_inj]
    · simp [named, e]
  · have hb : built (.tup [.str h, y]) "made" = false := by simp [built]
    rw [hb]
    simp only [Bool.false_eq_true, if_false]
    refine call1 ho ?_
    refine fin _ ?_
    rw [isL_two]
    by_cases e : h = "name"
    · subst e; simp [named, hd2, hsT]
    · simp [named, hd2, e]
  · have hoz := (od_tup ho).2 z (by simp)
    simp only [depth, depths] at hd
    cases e : built (.tup [.str h, y, z]) "made" with
    | true =>
      obtain ⟨rfl, ps, rfl, ev⟩ := isL_built (hs := hsT) (n := n) (by simp [hsT]) e
      simp only [if_true]
      simp only [depth] at hd
      exact all_parts (isT n) n M _ _ y ps none hoz (by omega) (fin _ ev.symm)
    | false =>
      simp only [Bool.false_eq_true, if_false]
      refine call1 ho ?_
      refine fin _ ?_
      have hn : named (.tup [.str h, y, z]) = false := by simp [named]
      rw [hn, isL_three]
      rw [built_three] at e
      by_cases q : h ∈ hsT
      · simp only [hsT, List.mem_cons, List.not_mem_nil, or_false] at q
        rcases q with rfl | rfl
        · simp [ofString_inj]
        · simp only [decide_true, Bool.true_and] at e
          rw [if_neg (by simp [ofString_inj]), if_pos (.inl rfl), ← Bool.and_assoc (isW y), e]
          simp
      · simp [q]
theorem does_plain (n : Nat) : Does 2 (t_is_plain sp_built (spD (isP n) n)) 1 (spD (isP (n + 1)) (n + 1)) := by
  rintro ds M hl ⟨d, rfl, ho, hd⟩
  have fin : ∀ b, b = isL hsP (n + 1) d → Ret (spD (isP (n + 1)) (n + 1)) [d] M (.bl b) M := fun b h => retB h
  have tt : t_is_plain sp_built (spD (isP n) n) = sRet (dAndV (dCall sp_built (dA (dV 0) (dA (dC (.str "made")) dA0))) (dUn oAll (dComp (iSeq (dOp oIx (dV 0) (dC (.int 2)))) (gName 1) dYes (dCall (spD (isP n) n) (dA (dV 1) dA0)) [1]))) := rfl
  rw [tt]
  have ap := fun (h : Str) (y : D) (ps : List D) => all_parts (isP n) n M (Ret (spD (isP (n + 1)) (n + 1)) [.tup [.str h, y, .tup ps]] M) h y ps none
  generalize dUn oAll (dComp (iSeq (dOp oIx (dV 0) (dC (.int 2)))) (gName 1) dYes (dCall (spD (isP n) n) (dA (dV 1) dA0)) [1]) = T at ap ⊢
  simp only [sRet, dAndV, dCall, dA, dA0, dV, dC, start, List.map, List.length, List.replicate, List.cons_append, List.nil_append, List.getElem?_cons_zero, List.getElem?_cons_succ]
  refine call_built ho ?_
  rcases shape d with D0 | ⟨h, rfl⟩ | ⟨h, y, rfl⟩ | ⟨h, y, z, rfl⟩
  · rw [built_dead D0]
    simp only [Bool.false_eq_true, if_false]
    exact fin _ (by rw [D0.l])
  · have hb : built (.tup [.str h]) "made" = false := by simp [built]
    rw [hb]
    simp only [Bool.false_eq_true, if_false]
    refine fin _ ?_
    rw [isL_one]
    by_cases e : h = "skip"
    · subst e; simp [hsP, ofString_inj]
    · simp [e]
  · have hb : built (.tup [.str h, y]) "made" = false := by simp [built]
    rw [hb]
    simp only [Bool.false_eq_true, if_false]
    refine fin _ ?_
    rw [isL_two]
    by_cases e : h = "name"
    · subst e; simp [hsP, ofString_inj]
    · simp [e]
  · have hoz := (od_tup ho).2 z (by simp)
    simp only [depth, depths] at hd
    cases e : built (.tup [.str h, y, z]) "made" with
    | true =>
      obtain ⟨rfl, ps, rfl, ev⟩ := isL_built (hs := hsP) (n := n) (by simp [hsP]) e
      simp only [if_true]
      simp only [depth] at hd
      exact ap _ y ps hoz (by omega) (fin _ ev.symm)
    | false =>
      simp only [Bool.false_eq_true, if_false]
      refine fin _ ?_
      rw [isL_three]
      rw [built_three] at e
      by_cases q : h ∈ hsP
      · simp only [hsP, List.mem_cons, List.not_mem_nil, or_false] at q
        subst q
        simp only [decide_true, Bool.true_and] at e
        rw [if_neg (by simp [ofString_inj]), if_pos (.inl rfl), ← Bool.and_assoc (isW y), e]
        simp
      · simp [q]
/-! ### the law's own walk of the form -/
def strsOf : List D → List Str
  | [] => []
  | .str x :: r => x :: strsOf r
  | _ :: r => strsOf r
theorem strsOf_map : ∀ hs : List Str, strsOf (hs.map D.str) = hs
  | [] => rfl
  | h :: r => by simp [strsOf, strsOf_map r]
def fIs (n : Nat) : List D → Bool
  | [d, .lst l] => isL (strsOf l) n d
  | _ => false
def sp_is (n : Nat) : Spec := spB (fun ds => ∃ (d : D) (hs : List Str), ds = [d, .lst (hs.map D.str)] ∧ od 1000 d = true ∧ depth d ≤ n ∧ ∀ h ∈ hs, h ∈ six) (fIs n)
theorem call_is {n : Nat} {d : D} {hs : List Str} {M : Mem} {Q : DK} (h : od 1000 d = true) (hd : depth d ≤ n) (h6 : ∀ h ∈ hs, h ∈ six) (q : Q (.bl (isL hs n d)) M) : (sp_is n).pre [d, .lst (hs.map D.str)] M ∧ ∀ e M', (sp_is n).post [d, .lst (hs.map D.str)] M e M' → Q e M' := callB (f := fIs n) ⟨d, hs, rfl, h, hd, h6⟩ (by
  show Q (.bl (isL (strsOf (hs.map D.str)) n d)) M
  rw [strsOf_map]
  exact q)
theorem is_none (ds : List D) (M : Mem) : ¬ (sp_is 0).pre ds M := by
  rintro ⟨d, hs, _, _, h, _⟩
  have := dep1 d
  omega
theorem is_comp (n : Nat) (M : Mem) (Q : DK) (ρ : Env) (hs : List Str) (h6 : ∀ h ∈ hs, h ∈ six) (r1 : ρ[1]? = some (some (.lst (hs.map D.str)))) (r2 : 2 < ρ.length) : ∀ (ps : List D) (bs : List Bool), (∀ p ∈ ps, od 1000 p = true ∧ depth p ≤ n) → Q (.lst ((bs ++ ps.map (isL hs n)).map D.bl)) M →
    dCompL (gName 2) dYes (dCall (sp_is n) (dA (dV 2) (dA (dV 1) dA0))) ρ ps (bs.map D.bl) M Q := by
  intro ps
  induction ps with
  | nil => intro bs _ q; simpa using q
  | cons p ps ih =>
    intro bs h q
    have hp := h p (by simp)
    have g1 : (ρ.set 2 (some p))[1]? = some (some (.lst (hs.map D.str))) := by rw [List.getElem?_set_ne (by decide)]; exact r1
    have g2 : (ρ.set 2 (some p))[2]? = some (some p) := by rw [List.getElem?_set_self r2]
    simp only [dCompL, gName, dYes, if_true, dCall, dA, dV, dA0, g1, g2]
    refine call_is hp.1 hp.2 h6 ?_
    have ea : bs.map D.bl ++ [D.bl (isL hs n p)] = (bs ++ [isL hs n p]).map D.bl := by simp
    rw [ea]
    refine ih (bs ++ [isL hs n p]) (fun y hy => h y (List.mem_cons_of_mem _ hy)) ?_
    simpa [List.append_assoc] using q
theorem isL_four (hs : List Str) (n : Nat) (x a b c : D) (r : List D) : isL hs n (.tup (x :: a :: b :: c :: r)) = false := by
  cases n with
  | zero => rfl
  | succ n => cases x <;> rfl
theorem isL_head (hs : List Str) (n : Nat) {h : Str} (hh : h ∉ hs) (r : List D) : isL hs n (.tup (.str h :: r)) = false := by
  cases n with
  | zero => rfl
  | succ n =>
    match r with
    | [] => simp [isL_one, hh]
    | [y] => simp [isL_two, hh]
    | [y, z] => simp [isL_three, hh]
    | a :: b :: c :: r => rfl
theorem isL_nostr (hs : List Str) (n : Nat) {x : D} (hx : ∀ h, x ≠ .str h) (r : List D) : isL hs n (.tup (x :: r)) = false := by
  cases n with
  | zero => rfl
  | succ n =>
    unfold isL
    split
    · rename_i e; simp only [D.tup.injEq, List.cons.injEq] at e; exact (hx _ e.1).elim
    · rename_i e; simp only [D.tup.injEq, List.cons.injEq] at e; exact (hx _ e.1).elim
    · rename_i e; simp only [D.tup.injEq, List.cons.injEq] at e; exact (hx _ e.1).elim
    · rfl
abbrev lw1 : DT := (dOr (dNot (dTest (dUn (oIsi "tuple") (dV 0)))) (dOr (dTest (dOp oEqT0 (dV 0) (dTup dA0))) (dOr (dNot (dTest (dUn (oIsi "str") (dOp oIx (dV 0) (dC (.int 0)))))) (dTest (dOp oNotIn (dOp oIx (dV 0) (dC (.int 0))) (dV 1))))))
abbrev lw3 (n : Nat) : DS := (sSeq (sIf (dTest (dOp oIn (dOp oIx (dV 0) (dC (.int 0))) (dLst (dA (dC (.str "either")) (dA (dC (.str "same")) dA0))))) (sRet (dAndV (dCall (sp_is n) (dA (dOp oIx (dV 0) (dC (.int 1))) (dA (dV 1) dA0))) (dCall (sp_is n) (dA (dOp oIx (dV 0) (dC (.int 2))) (dA (dV 1) dA0))))) sNext)
  (sSeq (sIf (dOr (dNot (dTest (dCall (sp1 isW) (dA (dOp oIx (dV 0) (dC (.int 1))) dA0)))) (dOr (dNot (dTest (dUn (oIsi "tuple") (dOp oIx (dV 0) (dC (.int 2)))))) (dTest (dOp oGt (dUn oLen (dOp oIx (dV 0) (dC (.int 2)))) (dC (.int 3)))))) (sRet (dC (.bl false))) sNext)
  (sRet (dUn oAll (dComp (iSeq (dOp oIx (dV 0) (dC (.int 2)))) (gName 2) dYes (dCall (sp_is n) (dA (dV 2) (dA (dV 1) dA0))) [2])))))
abbrev lw2 (n : Nat) (T : DS) : DS := (sSeq (sIf (dTest (dOp oEq (dOp oIx (dV 0) (dC (.int 0))) (dC (.str "skip")))) (sRet (dOp oEq (dUn oLen (dV 0)) (dC (.int 1)))) sNext)
  (sSeq (sIf (dTest (dOp oEq (dOp oIx (dV 0) (dC (.int 0))) (dC (.str "name")))) (sRet (dAndV (dOp oEq (dUn oLen (dV 0)) (dC (.int 2))) (dOrV (dCall (sp1 isW) (dA (dOp oIx (dV 0) (dC (.int 1))) dA0)) (dCall (sp1 isN) (dA (dOp oIx (dV 0) (dC (.int 1))) dA0))))) sNext)
  (sSeq (sIf (dTest (dOp oNe (dUn oLen (dV 0)) (dC (.int 3)))) (sRet (dC (.bl false))) sNext) T)))
theorem t_is_eq (n : Nat) : t__law_is (sp_is n) (sp1 isW) (sp1 isN) = sSeq (sIf lw1 (sRet (dC (.bl false))) sNext) (lw2 n (lw3 n)) := rfl
theorem three_ok (n : Nat) (M : Mem) (h : Str) (y z : D) (hs : List Str) (E : DEnds) (h6 : ∀ h ∈ hs, h ∈ six) (hh : h ∈ hs) (hns : ¬ h = "skip") (hnn : ¬ h = "name") (ho : od 1000 (.tup [.str h, y, z]) = true) (hd : depth (.tup [.str h, y, z]) ≤ n + 1) (q : E.rt (.bl (isL hs (n + 1) (.tup [.str h, y, z]))) M) :
    lw3 n E [some (.tup [.str h, y, z]), some (.lst (hs.map D.str)), none] M := by
  have hoy := (od_tup ho).2 y (by simp)
  have hoz := (od_tup ho).2 z (by simp)
  simp only [depth, depths] at hd
  have i0 : atI [D.str h, y, z] 0 = some (.str h) := rfl
  have i1 : atI [D.str h, y, z] 1 = some y := rfl
  have i2 : atI [D.str h, y, z] 2 = some z := rfl
  rw [isL_three] at q
  by_cases e : h = "either" ∨ h = "same"
  · rw [if_pos e] at q
    have hin : hasD [D.str "either", D.str "same"] (.str h) = true := by
      rcases e with rfl | rfl <;> simp
    simp only [lw3, sSeq, sIf, dTest, dOp, dV, dC, dLst, dA, dA0, List.getElem?_cons_zero, oIx_tup, i0, oIn, inB_lst, flat_str, List.all_cons, List.all_nil, Bool.and_self, true_and, hin, if_true, sRet, dAndV, dCall, List.getElem?_cons_succ, i1, i2]
    refine call_is hoy (by omega) h6 ?_
    cases ey : isL hs n y with
    | false =>
      simp only [Bool.false_eq_true, if_false]
      simpa [ey, hh] using q
    | true =>
      simp only [if_true]
      refine call_is hoz (by omega) h6 ?_
      simpa [ey, hh] using q
  · rw [if_neg e] at q
    have hmc : h = "made" ∨ h = "call" := by
      have := h6 h hh
      simp only [six, List.mem_cons, List.not_mem_nil, or_false] at this
      rcases this with z | z | z | z | z | z
      · exact (hnn z).elim
      · exact .inl z
      · exact .inr z
      · exact (e (.inl z)).elim
      · exact (e (.inr z)).elim
      · exact (hns z).elim
    rw [if_pos hmc] at q
    have hin : hasD [D.str "either", D.str "same"] (.str h) = false := by
      simp only [not_or] at e
      have e1 : ¬ Str.ofString "either" = h := fun z => e.1 z.symm
      have e2 : ¬ Str.ofString "same" = h := fun z => e.2 z.symm
      simp [e1, e2]
    simp only [lw3, sSeq, sIf, dTest, dOp, dV, dC, dLst, dA, dA0, List.getElem?_cons_zero, oIx_tup, i0, oIn, inB_lst, flat_str, List.all_cons, List.all_nil, Bool.and_self, true_and, hin, Bool.false_eq_true, if_false, sNext, dOr, dNot, dCall, i1, i2]
    refine call1 hoy ?_
    cases ew : isW y with
    | false =>
      simp only [Bool.not_false, if_true, sRet, dC]
      simpa [ew] using q
    | true =>
      simp only [Bool.not_true, Bool.false_eq_true, if_false, dUn, dOp, dV, dC, List.getElem?_cons_zero, oIx_tup, i2, oIsi]
      refine ⟨od_ty hoz, ?_⟩
      cases z with
      | tup ps =>
        have hp := od_tup hoz
        simp only [depth] at hd
        by_cases h3 : 3 < (ps.length : Int)
        · have : row (.tup ps) 3 0 = false := by
            have : ¬ ((ps.length : Int) ≤ 3) := by omega
            simp [row]; omega
          simp [h3]
          simpa [this] using q
        · have hr : row (.tup ps) 3 0 = true := by
            simp [row]; omega
          have zc := is_comp n M (fun d M' => oAll d M' E.rt) [some (.tup [.str h, y, .tup ps]), some (.lst (hs.map D.str)), none] hs h6 rfl (by simp) ps [] (fun p hq => ⟨hp.2 p hq, Nat.le_trans (depth_mem hq) (by omega)⟩) (by
            simp only [List.nil_append, oAll_lst, bools_map, all_mapD]
            simpa [ew, hr, hh, partsD] using q)
          have h3' : ¬ (3 < ps.length) := by omega
          simp [h3, h3', i2]
          exact ⟨by have := hp.1; omega, zc⟩
      | str x => simpa [row] using q
      | lst ys => simpa [row] using q
      | non => simpa [row] using q
      | bl b => simpa [row] using q
      | int b => simpa [row] using q
      | dK ks vs => simpa [row] using q
      | _ => simp [od] at hoz
theorem does_law_is (n : Nat) : Does 3 (t__law_is (sp_is n) (sp1 isW) (sp1 isN)) 2 (sp_is (n + 1)) := by
  rintro ds M hl ⟨d, hs, rfl, ho, hd, h6⟩
  have fin : ∀ b, b = isL hs (n + 1) d → Ret (sp_is (n + 1)) [d, .lst (hs.map D.str)] M (.bl b) M := fun b h => retB (f := fIs (n + 1)) (by
    show b = isL (strsOf (hs.map D.str)) (n + 1) d
    rw [strsOf_map]
    exact h)
  rw [t_is_eq]
  cases d with
  | tup xs =>
    cases xs with
    | nil => simpa using fin false rfl
    | cons x r =>
      have hox := od_head ho
      by_cases hx : ∃ h, x = .str h
      · obtain ⟨h, rfl⟩ := hx
        have i0 : atI (D.str h :: r) 0 = some (.str h) := atI_zero _ _
        by_cases hh : h ∈ hs
        · have c1 : ∀ (E : DEnds) (q : E.nx [some (.tup (.str h :: r)), some (.lst (hs.map D.str)), none] M), sIf lw1 (sRet (dC (.bl false))) sNext E [some (.tup (.str h :: r)), some (.lst (hs.map D.str)), none] M := by
            intro E q
            simp [i0, hh]
            exact q
          refine c1 _ ?_
          -- behind the first look
          have h3 := three_ok n M h
          generalize lw3 n = T at h3
          by_cases e1 : h = "skip"
          · subst e1
            have f := fin (decide ((r.length : Int) + 1 = 1)) (by
              match r with
              | [] => simp [isL_one, hh]
              | [y] => simp [isL_two, ofString_inj]
              | [y, z] => simp [isL_three, ofString_inj]
              | a :: b :: c :: r =>
                have hne : ¬ ((r.length : Int) + 1 + 1 + 1 + 1 = 1) := by omega
                simp [isL_four, hne])
            simp [i0]
            exact f
          · by_cases e2 : h = "name"
            · subst e2
              match r with
              | [] =>
                have f := fin false (by simp [isL_one, e1])
                simp [i0, e1]
                exact f
              | [y] =>
                have hoy := (od_tup ho).2 y (by simp)
                have i1 : atI [D.str "name", y] 1 = some y := rfl
                simp [i0, i1, e1]
                refine call1 hoy ?_
                cases ew : isW y with
                | true => simpa using fin true (by simp [isL_two, hh, ew])
                | false =>
                  simp
                  refine call1 hoy ?_
                  exact fin _ (by simp [isL_two, hh, ew])
              | [y, z] =>
                have f := fin false (by simp [isL_three, ofString_inj])
                simp [i0, e1]
                exact f
              | a :: b :: c :: r =>
                have f := fin false (by simp [isL_four])
                have hne : ¬ ((r.length : Int) + 1 + 1 + 1 + 1 = 2) := by omega
                simp [i0, e1, hne]
                exact f
            · match r with
              | [] =>
                have f := fin false (by simp [isL_one, e1])
                simp [i0, e1, e2]
                exact f
              | [y] =>
                have f := fin false (by simp [isL_two, e2])
                simp [i0, e1, e2]
                exact f
              | [y, z] =>
                have q := h3 y z hs { nx := fun _ M' => Ret (sp_is (n + 1)) [.tup [.str h, y, z], .lst (hs.map D.str)] M .non M', rt := Ret (sp_is (n + 1)) [.tup [.str h, y, z], .lst (hs.map D.str)] M } h6 hh e1 e2 ho hd (fin _ rfl)
                simp [i0, e1, e2]
                exact q
              | a :: b :: c :: r =>
                have f := fin false (by simp [isL_four])
                have hne : ¬ ((r.length : Int) + 1 + 1 + 1 + 1 = 3) := by omega
                simp [i0, e1, e2, hne]
                exact f
        · have f := fin false (by simp [isL_head hs (n + 1) hh r])
          simp [i0, hh]
          exact f
      · have f := fin false (by rw [isL_nostr hs (n + 1) (fun h e => hx ⟨h, e⟩)])
        have i0 : atI (x :: r) 0 = some x := atI_zero _ _
        cases x with
        | str h => exact (hx ⟨h, rfl⟩).elim
        | tup ys => simpa [i0] using f
        | lst ys => simpa [i0] using f
        | non => simpa [i0] using f
        | bl b => simpa [i0] using f
        | int b => simpa [i0] using f
        | dK ks vs => simpa [i0] using f
        | _ => simp [od] at hox
  | str x => simpa using fin false rfl
  | lst ys => simpa using fin false rfl
  | non => simpa using fin false rfl
  | bl b => simpa using fin false rfl
  | int b => simpa using fin false rfl
  | dK ks vs => simpa using fin false rfl
  | _ => simp [od] at ho
abbrev sp_thing (n : Nat) : Spec := spD (isT n) n
theorem thing_none (ds : List D) (M : Mem) : ¬ (sp_thing 0).pre ds M := spD_none (fun n => isT n) ds M
abbrev sp_plain (n : Nat) : Spec := spD (isP n) n
theorem plain_none (ds : List D) (M : Mem) : ¬ (sp_plain 0).pre ds M := spD_none (fun n => isP n) ds M
/-! ### odd things, bent things -/
mutual
theorem od_mono {m k : Nat} (h : m ≤ k) : ∀ d : D, od m d = true → od k d = true
  | .non, _ => by simp [od]
  | .bl _, _ => by simp [od]
  | .int _, _ => by simp [od]
  | .str x, o => by
    have := od_str o
    simp [od, this.1]; omega
  | .tup xs, o => by
    simp only [od, Bool.and_eq_true, decide_eq_true_eq] at o ⊢
    exact ⟨by omega, ods_mono h xs o.2⟩
  | .lst xs, o => by
    simp only [od, Bool.and_eq_true, decide_eq_true_eq] at o ⊢
    exact ⟨by omega, ods_mono h xs o.2⟩
  | .dK [] [], _ => by simp [od]
  | .dK (_ :: _) _, o => by simp [od] at o
  | .dK [] (_ :: _), o => by simp [od] at o
  | .ref _, o => by simp [od] at o
  | .rol _, o => by simp [od] at o
  | .dT _ _, o => by simp [od] at o
  | .ins _ _ _, o => by simp [od] at o
  | .ty _, o => by simp [od] at o
  | .cls _, o => by simp [od] at o
theorem ods_mono {m k : Nat} (h : m ≤ k) : ∀ ds : List D, ods m ds = true → ods k ds = true
  | [], _ => by simp [ods]
  | d :: ds, o => by
    simp only [ods, Bool.and_eq_true] at o ⊢
    exact ⟨od_mono h d o.1, ods_mono h ds o.2⟩
end
theorem od_row {m : Nat} {xs : List D} (hl : xs.length ≤ m) (h : ∀ x ∈ xs, od m x = true) : od m (.tup xs) = true := by
  simp only [od, Bool.and_eq_true, decide_eq_true_eq]
  exact ⟨hl, ods_all.mpr h⟩
theorem od_rowL {m : Nat} {xs : List D} (hl : xs.length ≤ m) (h : ∀ x ∈ xs, od m x = true) : od m (.lst xs) = true := by
  simp only [od, Bool.and_eq_true, decide_eq_true_eq]
  exact ⟨hl, ods_all.mpr h⟩
theorem depths_le {k : Nat} : ∀ {xs : List D}, (∀ x ∈ xs, depth x ≤ k) → depths xs ≤ k
  | [], _ => by simp [depths]
  | x :: xs, h => by
    simp only [depths]
    have h1 := h x (by simp)
    have h2 := depths_le (xs := xs) fun y hy => h y (List.mem_cons_of_mem _ hy)
    omega
def odd1 : List D := [.non, .bl true, .bl false, .int 0, .int 1, .int (-1), .int (10 ^ 40), .str "", .str "a", .str "skip", .str "name", .str "made", .tup [], .lst [], .dK [] [], .tup [.str "skip"]]
def odd2 : List D := [.tup [.str "made", .str "yes", .tup []], .tup [.str "name", .int 1], .str "truth", .str "same", .str "0", .str "007", .str "1000", .str "Ab", .str "abcdefghi", .tup [.tup []]]
def odd3 : List D := [.tup [.str "name", .str "b"], .tup [.str "name"], .tup [.str "made", .str "a", .lst [.str "b"]], .tup [.str "call", .str "a", .tup []], .tup [.str "skip", .tup []]]
def odd1E : DE := (dLst (dA (dC .non) (dA (dC (.bl true)) (dA (dC (.bl false)) (dA (dC (.int 0)) (dA (dC (.int 1)) (dA (dUn oNeg (dC (.int 1))) (dA (dOp oPow (dC (.int 10)) (dC (.int 40))) (dA (dC (.str "")) (dA (dC (.str "a")) (dA (dC (.str "skip")) (dA (dC (.str "name")) (dA (dC (.str "made")) (dA (dTup dA0) (dA (dLst dA0) (dA dDict0 (dA (dTup (dA (dC (.str "skip")) dA0)) dA0)))))))))))))))))
def odd2E : DE := (dLst (dA (dTup (dA (dC (.str "made")) (dA (dC (.str "yes")) (dA (dTup dA0) dA0)))) (dA (dTup (dA (dC (.str "name")) (dA (dC (.int 1)) dA0))) (dA (dC (.str "truth")) (dA (dC (.str "same")) (dA (dC (.str "0")) (dA (dC (.str "007")) (dA (dC (.str "1000")) (dA (dC (.str "Ab")) (dA (dC (.str "abcdefghi")) (dA (dTup (dA (dTup dA0) dA0)) dA0)))))))))))
def odd3E : DE := (dLst (dA (dTup (dA (dC (.str "name")) (dA (dC (.str "b")) dA0))) (dA (dTup (dA (dC (.str "name")) dA0)) (dA (dTup (dA (dC (.str "made")) (dA (dC (.str "a")) (dA (dLst (dA (dC (.str "b")) dA0)) dA0)))) (dA (dTup (dA (dC (.str "call")) (dA (dC (.str "a")) (dA (dTup dA0) dA0)))) (dA (dTup (dA (dC (.str "skip")) (dA (dTup dA0) dA0))) dA0))))))
theorem ev_odd1 (ρ : Env) (M : Mem) (Q : DK) (q : Q (.lst odd1) M) : odd1E ρ M Q := by
  show (0 ≤ (40 : Int) ∧ (40 : Int) ≤ 1000000 ∧ (10 : Int).natAbs < 2 ^ 64) ∧ _
  exact ⟨by decide, q⟩
theorem ev_odd2 (ρ : Env) (M : Mem) (Q : DK) (q : Q (.lst odd2) M) : odd2E ρ M Q := q
theorem ev_odd3 (ρ : Env) (M : Mem) (Q : DK) (q : Q (.lst odd3) M) : odd3E ρ M Q := q
theorem odd_ok : ∀ x ∈ odd1 ++ odd2 ++ odd3, od 10 x = true ∧ depth x ≤ 3 := by
  have h : ((odd1 ++ odd2 ++ odd3).all fun x => od 10 x && decide (depth x ≤ 3)) = true := by decide +kernel
  intro x hx
  have := List.all_eq_true.mp h x hx
  simpa using this
def sp_odd : Spec := ⟨fun ds _ => ∃ k : Int, ds = [.int k], fun _ M d M' => M' = M ∧ od 10 d = true ∧ depth d ≤ 3⟩
theorem call_odd {k : Int} {M : Mem} {Q : DK} (q : ∀ d, od 10 d = true → depth d ≤ 3 → Q d M) : sp_odd.pre [.int k] M ∧ ∀ d M', sp_odd.post [.int k] M d M' → Q d M' := by
  refine ⟨⟨k, rfl⟩, fun d M' p => ?_⟩
  obtain ⟨rfl, h1, h2⟩ := p
  exact q d h1 h2
theorem t_odd_eq : t__law_odd = (sSeq (sAsg odd1E (gName 1)) (sSeq (sAsg (dOp oAdd (dV 1) odd2E) (gName 1)) (sSeq (sAsg (dOp oAdd (dV 1) odd3E) (gName 1)) (sRet (dOp oIx (dV 1) (dOp oMod (dV 0) (dUn oLen (dV 1)))))))) := rfl
theorem odd_gen (l1 l2 l3 : List D) (E1 E2 E3 : DE) (h1 : ∀ ρ M Q, Q (.lst l1) M → E1 ρ M Q) (h2 : ∀ ρ M Q, Q (.lst l2) M → E2 ρ M Q) (h3 : ∀ ρ M Q, Q (.lst l3) M → E3 ρ M Q) (hok : ∀ x ∈ l1 ++ l2 ++ l3, od 10 x = true ∧ depth x ≤ 3) (n1 : l1.length = 16) (n2 : l2.length = 10) (n3 : l3.length = 5) :
    Does 2 (sSeq (sAsg E1 (gName 1)) (sSeq (sAsg (dOp oAdd (dV 1) E2) (gName 1)) (sSeq (sAsg (dOp oAdd (dV 1) E3) (gName 1)) (sRet (dOp oIx (dV 1) (dOp oMod (dV 0) (dUn oLen (dV 1)))))))) 1 sp_odd := by
  rintro ds M hl ⟨k, rfl⟩
  simp only [sSeq, sAsg]
  refine h1 _ _ _ ?_
  simp only [gName, start, List.map, List.length, List.replicate, List.cons_append, List.nil_append, List.set, sSeq, sAsg, dOp, dV, List.getElem?_cons_zero, List.getElem?_cons_succ]
  refine h2 _ _ _ ?_
  simp only [oAdd_ll]
  refine ⟨by omega, ?_⟩
  refine h3 _ _ _ ?_
  simp only [oAdd_ll]
  refine ⟨by rw [List.length_append]; omega, ?_⟩
  have hl : (l1 ++ l2 ++ l3).length = 31 := by rw [List.length_append, List.length_append]; omega
  have hm := mod_pos k (show (0 : Int) < ((l1 ++ l2 ++ l3).length : Int) by omega)
  obtain ⟨v, e, hv⟩ := atI_mem (xs := l1 ++ l2 ++ l3) hm.1 hm.2
  simp only [sRet, dOp, dUn, dV, List.getElem?_cons_zero, List.getElem?_cons_succ, oLen_lst, oMod_int, oIx_lst, e]
  exact ⟨by omega, Ret.now ⟨rfl, hok v hv⟩⟩
theorem does_odd : Does 2 t__law_odd 1 sp_odd := by
  rw [t_odd_eq]
  exact odd_gen odd1 odd2 odd3 odd1E odd2E odd3E ev_odd1 ev_odd2 ev_odd3 odd_ok rfl rfl rfl
/-! texts -/
theorem mem_cut {α : Type} {xs : List α} {lo hi : Option Int} {y : α} (h : y ∈ cut xs lo hi) : y ∈ xs := List.mem_of_mem_drop (List.mem_of_mem_take h)
theorem len_cut {α : Type} (xs : List α) (lo hi : Option Int) : (cut xs lo hi).length ≤ xs.length := by
  unfold cut
  rw [List.length_take, List.length_drop]
  omega
theorem strOk_cut {x : Str} (h : strOk x = true) (lo hi : Option Int) : strOk ⟨(cut x.cps.toList lo hi).toArray⟩ = true := by
  unfold strOk at h ⊢
  rw [← Array.all_toList, List.all_eq_true] at h ⊢
  intro c hc
  exact h c (mem_cut (by simpa using hc))
theorem slen_cut (x : Str) (lo hi : Option Int) : (⟨(cut x.cps.toList lo hi).toArray⟩ : Str).length ≤ x.length := by
  have := len_cut x.cps.toList lo hi
  rw [len_list x]
  show (cut x.cps.toList lo hi).toArray.size ≤ _
  simpa using this
theorem slen_add (a b : Str) : (a ++ b).length = a.length + b.length := by
  show (a.cps ++ b.cps).size = _
  rw [Array.size_append]; rfl
def sp_text : Spec := ⟨fun ds _ => ∃ (k : Int) (x : Str), ds = [.int k, .str x] ∧ strOk x = true ∧ x.length ≤ 1000, fun ds M d M' => M' = M ∧ ∀ (k : Int) (x : Str), ds = [.int k, .str x] → ∃ y, d = .str y ∧ strOk y = true ∧ y.length ≤ 2 * x.length + 1⟩
theorem call_text {k : Int} {x : Str} {M : Mem} {Q : DK} (h1 : strOk x = true) (h2 : x.length ≤ 1000) (q : ∀ y, strOk y = true → y.length ≤ 2 * x.length + 1 → Q (.str y) M) : sp_text.pre [.int k, .str x] M ∧ ∀ d M', sp_text.post [.int k, .str x] M d M' → Q d M' := by
  refine ⟨⟨k, x, rfl, h1, h2⟩, fun d M' p => ?_⟩
  obtain ⟨rfl, p⟩ := p
  obtain ⟨y, rfl, h1, h2⟩ := p k x rfl
  exact q y h1 h2
theorem does_text : Does 5 t__law_text_bent 2 sp_text := by
  rintro ds M hl ⟨k, x, rfl, hs, hx⟩
  have fin : ∀ y, strOk y = true → y.length ≤ 2 * x.length + 1 → Ret sp_text [.int k, .str x] M (.str y) M := fun y h1 h2 => Ret.now ⟨rfl, fun k' x' e => by
    simp only [List.cons.injEq, D.int.injEq, D.str.injEq, and_true] at e
    obtain ⟨-, rfl⟩ := e
    exact ⟨y, rfl, h1, h2⟩⟩
  have m8 := mod_pos (k / 3) (show (0 : Int) < 8 by decide)
  obtain ⟨v, ev, hv⟩ := atI_mem (xs := [D.str "a", D.str "z", D.str "0", D.str "9", D.str "A", D.str " ", D.str "-", D.str "_"]) m8.1 m8.2
  obtain ⟨g, rfl, hg1, hg2⟩ : ∃ g : Str, v = .str g ∧ strOk g = true ∧ g.length = 1 := by
    simp only [List.mem_cons, List.not_mem_nil, or_false] at hv
    rcases hv with rfl | rfl | rfl | rfl | rfl | rfl | rfl | rfl <;> exact ⟨_, rfl, strOk_of _, by decide +kernel⟩
  have hx2 : x.length ≤ 100000 := by omega
  obtain ⟨sp, hsp⟩ : ∃ sp, sp = k / 24 % ((x.length : Int) + 1) := ⟨_, rfl⟩
  have a1 := slen_cut x none (some sp)
  have a2 := slen_cut x (some sp) none
  have a3 := slen_cut x (some (sp + 1)) none
  have b1 := strOk_cut hs none (some sp)
  have b2 := strOk_cut hs (some sp) none
  have b3 := strOk_cut hs (some (sp + 1)) none
  simp only [t__law_text_bent, sSeq, sAsg, sRet, dOp, dUn, dCut, dPart, dNoPart, dLst, dA, dA0, dC, dV, gName, List.set, start, List.map, List.length, List.replicate, List.cons_append, List.nil_append, List.getElem?_cons_zero, List.getElem?_cons_succ, oFdiv_int, oMod_int, oIx_lst, ev, oLen_str, oAdd_int, oAdd_str, oCut_str, ← hsp]
  generalize (⟨(cut x.cps.toList none (some sp)).toArray⟩ : Str) = c1 at a1 b1 ⊢
  generalize (⟨(cut x.cps.toList (some sp) none).toArray⟩ : Str) = c2 at a2 b2 ⊢
  generalize (⟨(cut x.cps.toList (some (sp + 1)) none).toArray⟩ : Str) = c3 at a3 b3 ⊢
  refine ⟨⟨by decide, by decide⟩, by decide, ⟨by decide, by decide⟩, hx2, by omega, hx2, by omega, hx2, by rw [slen_add]; omega, hx2, by omega, hx2, by rw [slen_add]; omega, hx2, hx2, by omega, by decide, ?_⟩
  have m3 := mod_pos k (show (0 : Int) < 3 by decide)
  obtain ⟨u, eu, hu⟩ := atI_mem (xs := [D.str (c1 ++ g ++ c2), D.str (c1 ++ g ++ c3), D.str (c1 ++ c3)]) m3.1 m3.2
  rw [eu]
  simp only [List.mem_cons, List.not_mem_nil, or_false] at hu
  rcases hu with rfl | rfl | rfl
  · exact fin _ (strOk_add (strOk_add b1 hg1) b2) (by rw [slen_add, slen_add]; omega)
  · exact fin _ (strOk_add (strOk_add b1 hg1) b3) (by rw [slen_add, slen_add]; omega)
  · exact fin _ (strOk_add b1 b3) (by rw [slen_add]; omega)
def sp_bent (n : Nat) : Spec := ⟨fun ds M => ∃ (dk : Addr) (b m : Nat) (d : D), ds = [.ref dk, d] ∧ M dk = some (.deck 0 b) ∧ od m d = true ∧ m ≤ 400 ∧ depth d ≤ n ∧ 2 * n ≤ b,
  fun ds M e M' => ∀ (dk : Addr) (b m : Nat) (d : D), ds = [.ref dk, d] → M dk = some (.deck 0 b) → od m d = true → m ≤ 400 → od (2 * m + 10) e = true ∧ depth e ≤ depth d + 3 ∧ Drew 0 M dk b (2 * n) M'⟩
theorem call_bent {n : Nat} {dk : Addr} {b m : Nat} {d : D} {M : Mem} {Q : DK} (h : M dk = some (.deck 0 b)) (h1 : od m d = true) (h2 : m ≤ 400) (h3 : depth d ≤ n) (h4 : 2 * n ≤ b) (q : ∀ (e : D) (b' : Nat), (∀ m, od m d = true → m ≤ 400 → od (2 * m + 10) e = true) → depth e ≤ depth d + 3 → b ≤ b' + 2 * n → Q e (mset M dk (.deck 0 b'))) : (sp_bent n).pre [.ref dk, d] M ∧ ∀ e M', (sp_bent n).post [.ref dk, d] M e M' → Q e M' := by
  refine ⟨⟨dk, b, m, d, rfl, h, h1, h2, h3, h4⟩, fun e M' p => ?_⟩
  obtain ⟨y1, y2, b', rfl, y3⟩ := p dk b m d rfl h h1 h2
  exact q e b' (fun m' o hm => (p dk b m' d rfl h o hm).1) y2 y3
theorem bent_none (ds : List D) (M : Mem) : ¬ (sp_bent 0).pre ds M := by
  rintro ⟨dk, b, m, d, _, _, _, _, h, _⟩
  have := dep1 d
  omega
theorem ods_cut {m : Nat} {xs : List D} (h : ∀ x ∈ xs, od m x = true) (lo hi : Option Int) : ∀ x ∈ cut xs lo hi, od m x = true := fun x hx => h x (mem_cut hx)
/-- what a bent row is -/
theorem row_bent {m k : Nat} {xs ns : List D} (lo hi : Option Int) (lo2 hi2 : Option Int) (hl : xs.length ≤ m) (h : ∀ x ∈ xs, od m x = true) (hk : depths xs ≤ k) (hn : ns.length ≤ 2) (hns : ∀ x ∈ ns, od (2 * m + 10) x = true ∧ depth x ≤ k + 3) : od (2 * m + 10) (.tup (cut xs lo hi ++ ns ++ cut xs lo2 hi2)) = true ∧ depth (.tup (cut xs lo hi ++ ns ++ cut xs lo2 hi2)) ≤ k + 1 + 3 := by
  have l1 := len_cut xs lo hi
  have l2 := len_cut xs lo2 hi2
  constructor
  · refine od_row (by simp only [List.length_append]; omega) fun x hx => ?_
    simp only [List.mem_append] at hx
    rcases hx with (hx | hx) | hx
    · exact od_mono (by omega) x (h x (mem_cut hx))
    · exact (hns x hx).1
    · exact od_mono (by omega) x (h x (mem_cut hx))
  · simp only [depth]
    have : depths (cut xs lo hi ++ ns ++ cut xs lo2 hi2) ≤ k + 3 := depths_le fun x hx => by
      simp only [List.mem_append] at hx
      rcases hx with (hx | hx) | hx
      · have := depth_mem (mem_cut hx); omega
      · exact (hns x hx).2
      · have := depth_mem (mem_cut hx); omega
    omega
theorem does_bent (top : Int) (n : Nat) : Does 5 (t__law_bent sp_odd (sp_bent n) (sp_next 0 top) sp_text) 2 (sp_bent (n + 1)) := by
  rintro ds M hl ⟨dk, b, m, d, rfl, hM, ho, hm, hd, hb⟩
  have fin : ∀ (e : D) (b' : Nat), (∀ m, od m d = true → m ≤ 400 → od (2 * m + 10) e = true) → depth e ≤ depth d + 3 → b ≤ b' + 2 * (n + 1) → Ret (sp_bent (n + 1)) [.ref dk, d] M e (mset M dk (.deck 0 b')) := by
    intro e b' z1 z2 z3
    refine Ret.now ?_
    intro dk' b0 m' d' e1 e2 o2 hm2
    simp only [List.cons.injEq, D.ref.injEq, and_true] at e1
    obtain ⟨rfl, rfl⟩ := e1
    rw [hM] at e2
    cases e2
    exact ⟨z1 m' o2 hm2, z2, b', rfl, z3⟩
  simp only [t__law_bent, sSeq, sAsg, dCall, dA, dA0, dV, gName, start, List.map, List.length, List.replicate, List.cons_append, List.nil_append, List.getElem?_cons_zero, List.getElem?_cons_succ, List.set]
  refine draw hM (by omega) fun r b1 h0 hr hb1 => ?_
  have odd : ∀ (E : DEnds) (o3 o4 : Option D), E.rt = Ret (sp_bent (n + 1)) [.ref dk, d] M → sRet (dCall sp_odd (dA (dOp oFdiv (dV 2) (dC (.int 20))) dA0)) E [some (.ref dk), some d, some (.int r), o3, o4] (mset M dk (.deck 0 b1)) := by
    intro E o3 o4 hE
    simp only [sRet, dCall, dA, dA0, dOp, dV, dC, List.getElem?_cons_zero, List.getElem?_cons_succ, oFdiv_int]
    refine ⟨⟨by decide, by decide⟩, call_odd fun e y1 y2 => ?_⟩
    rw [hE]
    exact fin e b1 (fun m _ _ => od_mono (by omega) e y1) (by omega) (by omega)
  generalize sRet (dCall sp_odd (dA (dOp oFdiv (dV 2) (dC (.int 20))) dA0)) = T at odd ⊢
  cases d with
  | str x =>
    have hx := od_str ho
    by_cases c : 0 < r % 4
    · have z : sp_text.pre [.int (r / 4), .str x] (mset M dk (.deck 0 b1)) ∧ ∀ e M', sp_text.post [.int (r / 4), .str x] (mset M dk (.deck 0 b1)) e M' → Ret (sp_bent (n + 1)) [.ref dk, .str x] M e M' := call_text hx.1 (by omega) fun y y1 y2 => fin _ b1 (fun m o _ => by
          have := od_str o
          simp [od, y1]; omega) (by simp [depth]) (by omega)
      simp [c]
      exact z
    · simp [c]
      exact odd _ _ _ rfl
  | tup xs =>
    have hx := od_tup ho
    simp only [depth] at hd
    by_cases c : xs ≠ [] ∧ 0 < r % 5
    · obtain ⟨cn, c5⟩ := c
      have hxl : 0 < xs.length := List.length_pos_iff.mpr cn
      have hne : xs.isEmpty = false := by
        cases xs with
        | nil => exact (cn rfl).elim
        | cons _ _ => rfl
      simp [hne, c5]
      refine draw (mset_same _ _ _) (by omega) fun r2 b2 h02 hr2 hb2 => ?_
      rw [mset_mset]
      have ms := mod_pos r2 (show (0 : Int) < (xs.length : Int) by omega)
      obtain ⟨t, et, ht⟩ := atI_mem (xs := xs) ms.1 ms.2
      have mu := mod_pos (r / 30) (show (0 : Int) < (xs.length : Int) by omega)
      obtain ⟨u, eu, hu⟩ := atI_mem (xs := xs) mu.1 mu.2
      obtain ⟨sp, hsp⟩ : ∃ sp, sp = r2 % (xs.length : Int) := ⟨_, rfl⟩
      rw [← hsp] at et
      have dt := depth_mem ht
      have du := depth_mem hu
      simp only [oMod_int, ← hsp, oIx_tup, et, oAdd_int]
      refine ⟨by omega, ?_⟩
      refine call_bent (n := n) (b := b2) (m := m) (mset_same _ _ _) (hx.2 t ht) hm (by omega) (by omega) fun e b3 y1 y2 y3 => ?_
      rw [mset_mset]
      have last : ∀ (ns : List D), ns.length ≤ 2 → (∀ m, (∀ x ∈ xs, od m x = true) → m ≤ 400 → ∀ x ∈ ns, od (2 * m + 10) x = true ∧ depth x ≤ depths xs + 3) → Ret (sp_bent (n + 1)) [.ref dk, .tup xs] M (.tup (cut xs none (some sp) ++ ns ++ cut xs (some (sp + 1)) none)) (mset M dk (.deck 0 b3)) := by
        intro ns hn hns
        refine fin _ b3 (fun m o hm => ?_) ?_ (by omega)
        · have o' := od_tup o
          exact (row_bent none (some sp) (some (sp + 1)) none o'.1 o'.2 (Nat.le_refl _) hn (hns m o'.2 hm)).1
        · have := (row_bent (m := m) none (some sp) (some (sp + 1)) none hx.1 hx.2 (Nat.le_refl _) hn (hns m hx.2 hm)).2
          simp only [depth] at this ⊢
          exact this
      have l1 := len_cut xs none (some sp)
      have l2 := len_cut xs (some (sp + 1)) none
      have hxm := hx.1
      by_cases c6 : r / 5 % 6 = 0
      · have m3 := mod_pos (r / 900) (show (0 : Int) < 3 by decide)
        obtain ⟨v, ev, hv⟩ := atI_mem (xs := [D.tup [], D.tup [t, t], D.tup [u]]) m3.1 m3.2
        have hv' : ∃ ns, v = .tup ns ∧ ns.length ≤ 2 ∧ ∀ x ∈ ns, x ∈ xs := by
          simp only [List.mem_cons, List.not_mem_nil, or_false] at hv
          rcases hv with rfl | rfl | rfl
          · exact ⟨[], rfl, by simp, by simp⟩
          · exact ⟨[t, t], rfl, by simp, fun x hx => by simp at hx; rw [hx]; exact ht⟩
          · exact ⟨[u], rfl, by simp, fun x hx => by simp at hx; rw [hx]; exact hu⟩
        obtain ⟨ns, rfl, hn, hns⟩ := hv'
        have f := last ns hn fun m ho hm x hx => ⟨od_mono (by omega) x (ho x (hns x hx)), by have := depth_mem (hns x hx); omega⟩
        simp [c6, et, eu, ev]
        simp only [List.append_assoc] at f
        exact ⟨hxl, by omega, by omega, f⟩
      · have f := last [e] (by simp) fun m ho hm x hx => by
          simp only [List.mem_singleton] at hx
          subst hx
          exact ⟨y1 m (ho t ht) hm, by omega⟩
        simp [c6]
        simp only [List.append_assoc, List.cons_append, List.nil_append] at f
        refine ⟨by omega, ?_, f⟩
        simp only [List.length_append, List.length_cons] at *
        omega
    · by_cases c3 : r / 5 % 3 = 0
      · have m3 := mod_pos (r / 15) (show (0 : Int) < 3 by decide)
        obtain ⟨v, ev, hv⟩ := atI_mem (xs := [D.lst xs, D.tup xs.reverse, D.tup (xs ++ xs)]) m3.1 m3.2
        have f : Ret (sp_bent (n + 1)) [.ref dk, .tup xs] M v (mset M dk (.deck 0 b1)) := by
          simp only [List.mem_cons, List.not_mem_nil, or_false] at hv
          rcases hv with rfl | rfl | rfl
          · refine fin _ b1 (fun m o _ => ?_) (by simp only [depth]; omega) (by omega)
            have o' := od_tup o
            exact od_mono (m := m) (by omega) _ (od_rowL o'.1 o'.2)
          · refine fin _ b1 (fun m o _ => ?_) ?_ (by omega)
            · have o' := od_tup o
              exact od_mono (m := m) (by omega) _ (od_row (by simpa using o'.1) fun x hx => o'.2 x (by simpa using hx))
            · simp only [depth]
              have : depths xs.reverse ≤ depths xs := depths_le fun x hx => depth_mem (by simpa using hx)
              omega
          · refine fin _ b1 (fun m o _ => ?_) ?_ (by omega)
            · have o' := od_tup o
              refine od_row (by rw [List.length_append]; have := o'.1; omega) fun x hx => ?_
              rcases List.mem_append.mp hx with hx | hx
              · exact od_mono (by omega) x (o'.2 x hx)
              · exact od_mono (by omega) x (o'.2 x hx)
            · simp only [depth]
              have : depths (xs ++ xs) ≤ depths xs := depths_le fun x hx => by
                rcases List.mem_append.mp hx with hx | hx
                · exact depth_mem hx
                · exact depth_mem hx
              omega
        have hxm := hx.1
        have rest : ∀ (E : DEnds), E.rt = Ret (sp_bent (n + 1)) [.ref dk, .tup xs] M → sIf (dAnd (dTest (dUn (oIsi "tuple") (dV 1))) (dTest (dOp oEq (dOp oMod (dOp oFdiv (dV 2) (dC (.int 5))) (dC (.int 3))) (dC (.int 0))))) (sRet (dOp oIx (dLst (dA (dUn oList (dV 1)) (dA (dUn oRev (dV 1)) (dA (dOp oAdd (dV 1) (dV 1)) dA0)))) (dOp oMod (dOp oFdiv (dV 2) (dC (.int 15))) (dC (.int 3))))) sNext E [some (.ref dk), some (.tup xs), some (.int r), none, none] (mset M dk (.deck 0 b1)) := by
          intro E hE
          simp [c3, ev]
          rw [hE]
          exact ⟨by omega, f⟩
        generalize sIf (dAnd (dTest (dUn (oIsi "tuple") (dV 1))) (dTest (dOp oEq (dOp oMod (dOp oFdiv (dV 2) (dC (.int 5))) (dC (.int 3))) (dC (.int 0))))) (sRet (dOp oIx (dLst (dA (dUn oList (dV 1)) (dA (dUn oRev (dV 1)) (dA (dOp oAdd (dV 1) (dV 1)) dA0)))) (dOp oMod (dOp oFdiv (dV 2) (dC (.int 15))) (dC (.int 3))))) sNext = R at rest ⊢
        by_cases q : xs = []
        · subst q
          simp
          exact rest _ rfl
        · have hne : xs.isEmpty = false := by
            cases xs with
            | nil => exact (q rfl).elim
            | cons _ _ => rfl
          have c5 : ¬ 0 < r % 5 := fun z => c ⟨q, z⟩
          simp [hne, c5]
          exact rest _ rfl
      · have rest : ∀ (E : DEnds), (E.nx [some (.ref dk), some (.tup xs), some (.int r), none, none] (mset M dk (.deck 0 b1))) → sIf (dAnd (dTest (dUn (oIsi "tuple") (dV 1))) (dTest (dOp oEq (dOp oMod (dOp oFdiv (dV 2) (dC (.int 5))) (dC (.int 3))) (dC (.int 0))))) (sRet (dOp oIx (dLst (dA (dUn oList (dV 1)) (dA (dUn oRev (dV 1)) (dA (dOp oAdd (dV 1) (dV 1)) dA0)))) (dOp oMod (dOp oFdiv (dV 2) (dC (.int 15))) (dC (.int 3))))) sNext E [some (.ref dk), some (.tup xs), some (.int r), none, none] (mset M dk (.deck 0 b1)) := by
          intro E hE
          simp [c3]
          exact hE
        generalize sIf (dAnd (dTest (dUn (oIsi "tuple") (dV 1))) (dTest (dOp oEq (dOp oMod (dOp oFdiv (dV 2) (dC (.int 5))) (dC (.int 3))) (dC (.int 0))))) (sRet (dOp oIx (dLst (dA (dUn oList (dV 1)) (dA (dUn oRev (dV 1)) (dA (dOp oAdd (dV 1) (dV 1)) dA0)))) (dOp oMod (dOp oFdiv (dV 2) (dC (.int 15))) (dC (.int 3))))) sNext = R at rest ⊢
        by_cases q : xs = []
        · subst q
          simp
          exact rest _ (odd _ _ _ rfl)
        · have hne : xs.isEmpty = false := by
            cases xs with
            | nil => exact (q rfl).elim
            | cons _ _ => rfl
          have c5 : ¬ 0 < r % 5 := fun z => c ⟨q, z⟩
          simp [hne, c5]
          exact rest _ (odd _ _ _ rfl)
  | lst ys =>
    simp
    exact odd _ _ _ rfl
  | non =>
    simp
    exact odd _ _ _ rfl
  | bl b =>
    simp
    exact odd _ _ _ rfl
  | int b =>
    simp
    exact odd _ _ _ rfl
  | dK ks vs =>
    simp
    exact odd _ _ _ rfl
  | _ => simp [od] at ho
/-! ### heads, what is asked -/
def hsS : List Str := ["name", "made", "skip"]
def sp_heads : Spec := ⟨fun ds _ => ∃ k : Int, ds = [.int k], fun _ M d M' => M' = M ∧ ∃ hs : List Str, d = .lst (hs.map D.str) ∧ hs ≠ [] ∧ hs.length ≤ 6 ∧ ∀ h ∈ hs, h ∈ six⟩
theorem call_heads {k : Int} {M : Mem} {Q : DK} (q : ∀ hs : List Str, hs ≠ [] → hs.length ≤ 6 → (∀ h ∈ hs, h ∈ six) → Q (.lst (hs.map D.str)) M) : sp_heads.pre [.int k] M ∧ ∀ d M', sp_heads.post [.int k] M d M' → Q d M' := by
  refine ⟨⟨k, rfl⟩, fun d M' p => ?_⟩
  obtain ⟨rfl, hs, rfl, h1, h2, h3⟩ := p
  exact q hs h1 h2 h3
theorem six6 : ∀ h ∈ six, h ∈ six := fun _ h => h
theorem hsT6 : ∀ h ∈ hsT, h ∈ six := by
  intro h hh
  simp only [hsT, six, List.mem_cons, List.not_mem_nil, or_false] at hh ⊢
  rcases hh with hh | hh <;> simp only [hh, true_or, or_true]
theorem hsP6 : ∀ h ∈ hsP, h ∈ six := by
  intro h hh
  simp only [hsP, six, List.mem_cons, List.not_mem_nil, or_false] at hh ⊢
  simp only [hh, true_or, or_true]
theorem hsS6 : ∀ h ∈ hsS, h ∈ six := by
  intro h hh
  simp only [hsS, six, List.mem_cons, List.not_mem_nil, or_false] at hh ⊢
  rcases hh with hh | hh | hh <;> simp only [hh, true_or, or_true]
def headsE : DE := (dLst (dA (dLst (dA (dC (.str "name")) (dA (dC (.str "made")) (dA (dC (.str "call")) (dA (dC (.str "either")) (dA (dC (.str "same")) (dA (dC (.str "skip")) dA0))))))) (dA (dLst (dA (dC (.str "name")) (dA (dC (.str "made")) dA0))) (dA (dLst (dA (dC (.str "made")) dA0)) (dA (dLst (dA (dC (.str "name")) (dA (dC (.str "made")) (dA (dC (.str "skip")) dA0)))) dA0)))))
def headsL : List (List Str) := [six, hsT, hsP, hsS]
theorem ev_heads (ρ : Env) (M : Mem) (Q : DK) (q : Q (.lst (headsL.map fun hs => .lst (hs.map D.str))) M) : headsE ρ M Q := q
theorem heads_ok : ∀ hs ∈ headsL, hs ≠ [] ∧ hs.length ≤ 6 ∧ ∀ h ∈ hs, h ∈ six := by
  intro hs h
  simp only [headsL, List.mem_cons, List.not_mem_nil, or_false] at h
  rcases h with rfl | rfl | rfl | rfl
  · exact ⟨List.cons_ne_nil _ _, Nat.le_refl _, six6⟩
  · exact ⟨List.cons_ne_nil _ _, by show 2 ≤ 6; omega, hsT6⟩
  · exact ⟨List.cons_ne_nil _ _, by show 1 ≤ 6; omega, hsP6⟩
  · exact ⟨List.cons_ne_nil _ _, by show 3 ≤ 6; omega, hsS6⟩
theorem t_heads_eq : t__law_heads = (sSeq (sAsg headsE (gName 1)) (sRet (dOp oIx (dV 1) (dOp oMod (dV 0) (dC (.int 4)))))) := rfl
theorem heads_gen (L : List (List Str)) (E1 : DE) (h1 : ∀ ρ M Q, Q (.lst (L.map fun hs => .lst (hs.map D.str))) M → E1 ρ M Q) (hL : L.length = 4) (ok : ∀ hs ∈ L, hs ≠ [] ∧ hs.length ≤ 6 ∧ ∀ h ∈ hs, h ∈ six) :
    Does 2 (sSeq (sAsg E1 (gName 1)) (sRet (dOp oIx (dV 1) (dOp oMod (dV 0) (dC (.int 4)))))) 1 sp_heads := by
  rintro ds M hl ⟨k, rfl⟩
  simp only [sSeq, sAsg]
  refine h1 _ _ _ ?_
  have m4 := mod_pos k (show (0 : Int) < 4 by decide)
  obtain ⟨v, ev, hv⟩ := atI_mem (xs := L.map fun hs => D.lst (hs.map D.str)) m4.1 (by rw [List.length_map, hL]; exact m4.2)
  obtain ⟨hs, hm, rfl⟩ := List.mem_map.mp hv
  simp only [gName, start, List.map, List.length, List.replicate, List.cons_append, List.nil_append, List.set, sRet, dOp, dV, dC, List.getElem?_cons_zero, List.getElem?_cons_succ, oMod_int, oIx_lst, ev]
  refine ⟨by decide, Ret.now ⟨rfl, hs, rfl, ok hs hm⟩⟩
theorem does_heads : Does 2 t__law_heads 1 sp_heads := by
  rw [t_heads_eq]
  exact heads_gen headsL headsE ev_heads rfl heads_ok
def sp_says : Spec := ⟨fun ds _ => ∃ a : Bool, ds = [.bl a, .bl a], fun _ M d M' => d = .bl true ∧ M' = M⟩
theorem call_says {a : Bool} {M : Mem} {Q : DK} (q : Q (.bl true) M) : sp_says.pre [.bl a, .bl a] M ∧ ∀ d M', sp_says.post [.bl a, .bl a] M d M' → Q d M' := by
  refine ⟨⟨a, rfl⟩, fun d M' p => ?_⟩
  obtain ⟨rfl, rfl⟩ := p
  exact q
theorem does_says : Does 2 t__law_says 2 sp_says := by
  rintro ds M hl ⟨a, rfl⟩
  have f : Ret sp_says [.bl a, .bl a] M (.bl true) M := Ret.now ⟨rfl, rfl⟩
  simpa [t__law_says] using f
def sp_right : Spec := ⟨fun ds _ => ∃ d : D, ds = [d] ∧ od 1000 d = true ∧ depth d ≤ 20, fun _ M d M' => d = .bl true ∧ M' = M⟩
theorem call_right {d : D} {M : Mem} {Q : DK} (h1 : od 1000 d = true) (h2 : depth d ≤ 20) (q : Q (.bl true) M) : sp_right.pre [d] M ∧ ∀ e M', sp_right.post [d] M e M' → Q e M' := by
  refine ⟨⟨d, rfl, h1, h2⟩, fun d M' p => ?_⟩
  obtain ⟨rfl, rfl⟩ := p
  exact q
theorem does_right : Does 2 (t__law_right sp_says (spD (isP 20) 20) (sp_is 20) (sp1 isW) (sp1 isW) (spD (isT 20) 20) (spD (isS 20) 20)) 1 sp_right := by
  rintro ds M hl ⟨d, rfl, ho, hd⟩
  have f : Ret sp_right [d] M (.bl true) M := Ret.now ⟨rfl, rfl⟩
  have e6 : D.lst [.str "name", .str "made", .str "call", .str "either", .str "same", .str "skip"] = .lst (six.map D.str) := rfl
  have eT : D.lst [.str "name", .str "made"] = .lst (hsT.map D.str) := rfl
  have eP : D.lst [.str "made"] = .lst (hsP.map D.str) := rfl
  simp only [e6, eT, eP, isS, isT, isP, t__law_right, sSeq, sAsg, sIf, sRet, sNext, dNot, dTest, dAndV, dCall, dLst, dA, dA0, dV, dC, gName, start, List.map_cons, List.map_nil, List.length_cons, List.length_nil, List.replicate, List.cons_append, List.nil_append, List.set, List.getElem?_cons_zero, List.getElem?_cons_succ]
  refine callD ho hd ?_
  refine call_is (hs := six) ho hd six6 ?_
  refine call_says ?_
  simp only [Bool.not_true, Bool.false_eq_true, if_false]
  refine callD ho hd ?_
  refine call_is (hs := hsT) ho hd hsT6 ?_
  refine call_says ?_
  simp only [Bool.not_true, Bool.false_eq_true, if_false]
  refine callD ho hd ?_
  refine call_is (hs := hsP) ho hd hsP6 ?_
  refine call_says ?_
  simp only [if_true]
  refine call1 ho ?_
  refine call1 ho ?_
  refine call_says ?_
  exact f
/-! ### the law -/
mutual
theorem say_od : ∀ s : Say, s.ok = true → od 100 s.d = true
  | .name x, o => by
    simp only [Say.ok] at o
    simp [Say.d, od, ods, strOk_of, nm_str o, nm_len o]
    decide +kernel
  | .skip, o => by
    simp [Say.d, od, ods, strOk_of]
    decide +kernel
  | .made h ps, o => by
    simp only [Say.ok, Bool.and_eq_true, decide_eq_true_eq] at o
    have z := says_od ps o.2
    simp [Say.d, od, ods, strOk_of, nm_str o.1.1, nm_len o.1.1, z, says_length]
    exact ⟨by decide +kernel, by omega⟩
  | .call h ps, o => by
    simp only [Say.ok, Bool.and_eq_true, decide_eq_true_eq] at o
    have z := says_od ps o.2
    simp [Say.d, od, ods, strOk_of, nm_str o.1.1, nm_len o.1.1, z, says_length]
    exact ⟨by decide +kernel, by omega⟩
  | .either a b, o => by
    simp only [Say.ok, Bool.and_eq_true] at o
    simp [Say.d, od, ods, strOk_of, say_od a o.1, say_od b o.2]
    decide +kernel
  | .same a b, o => by
    simp only [Say.ok, Bool.and_eq_true] at o
    simp [Say.d, od, ods, strOk_of, say_od a o.1, say_od b o.2]
    decide +kernel
theorem says_od : ∀ ps : List Say, oks ps = true → ods 100 (says ps) = true
  | [], _ => by simp [says, ods]
  | s :: r, o => by
    simp only [oks, Bool.and_eq_true] at o
    simp [says, ods, say_od s o.1, says_od r o.2]
end
def Fine (d : D) : Prop := od 1000 d = true ∧ depth d ≤ 20
def sp_law : Spec := ⟨fun ds M => ∃ ns : List Int, ds = [.rol (ns.map D.int)] ∧ ns.length ≤ 63 ∧ M = fun _ => none, fun _ _ d _ => d = .bl true⟩
abbrev lbody (top : Int) : DS := (sSeq (sAsg (dCall (sp_next 0 top) (dA (dV 1) dA0)) (gName 4))
  (sSeq (sAsg (dCall (sp_any 0 5) (dA (dV 1) (dA (dCall sp_heads (dA (dV 4) dA0)) (dA (dOp oAdd (dC (.int 1)) (dOp oMod (dOp oFdiv (dV 4) (dC (.int 4))) (dC (.int 5)))) dA0)))) (gName 5))
  (sSeq (sAsg (dCall (sp_bent 16) (dA (dV 1) (dA (dV 5) dA0))) (gName 6))
  (sAsg (dOp oAdd (dV 2) (dLst (dA (dV 5) (dA (dV 6) (dA (dCall (sp_bent 16) (dA (dV 1) (dA (dV 6) dA0))) (dA (dCall (sp_name 0) (dA (dV 1) dA0)) (dA (dCall (sp_bent 16) (dA (dV 1) (dA (dCall (sp_letters 0) (dA (dV 1) (dA (dC (.int 8)) dA0))) dA0))) dA0))))))) (gName 2)))))
theorem B5 : B 5 = 4004 := rfl
theorem law_loop (top : Int) (E : DEnds) (M : Mem) (dk : Addr) (e0 : Option D) : ∀ (n i b : Nat) (xs : List D) (o3 o4 o5 o6 : Option D), n * 5000 ≤ b → xs.length + n * 5 ≤ 60 → (∀ x ∈ xs, Fine x) →
    (∀ (b' : Nat) (ys : List D) (o3 o4 o5 o6 : Option D), ys.length ≤ 60 → (∀ x ∈ ys, Fine x) → E.nx [e0, some (.ref dk), some (.lst ys), o3, o4, o5, o6] (mset M dk (.deck 0 b'))) →
    sLoop (gName 3) (lbody top) (upFrom i n) E [e0, some (.ref dk), some (.lst xs), o3, o4, o5, o6] (mset M dk (.deck 0 b)) := by
  intro n
  induction n with
  | zero => intro i b xs o3 o4 o5 o6 _ hx hf q; exact q b xs o3 o4 o5 o6 (by omega) hf
  | succ n ih =>
    intro i b xs o3 o4 o5 o6 hb hx hf q
    rw [Nat.succ_mul] at hb hx
    have z := ih (i + 1)
    simp only [upFrom, sLoop]
    generalize sLoop (gName 3) (lbody top) (upFrom (i + 1) n) E = N at z ⊢
    simp only [lbody, gName, sSeq, sAsg, dCall, dA, dV, dA0, List.set, List.getElem?_cons_zero, List.getElem?_cons_succ]
    refine draw (mset_same _ _ _) (by omega) fun r b1 h0 hr hb1 => ?_
    rw [mset_mset]
    refine call_heads fun hs g1 g2 g3 => ?_
    have m5 := mod_pos (r / 4) (show (0 : Int) < 5 by decide)
    simp only [dOp, dC, dV, List.getElem?_cons_zero, List.getElem?_cons_succ, oFdiv_int, oMod_int, oAdd_int]
    refine ⟨⟨by decide, by decide⟩, by decide, ?_⟩
    refine call_any (b := b1) (mset_same _ _ _) g1 (by omega) g3 (by omega) (by omega) (by rw [B5]; omega) ?_
    intro s b2 s1 s2 _ s4
    rw [B5] at s4
    rw [mset_mset]
    have so := say_od s s1
    have sd := depth_d s
    refine call_bent (n := 16) (b := b2) (m := 100) (mset_same _ _ _) so (by decide) (by omega) (by omega) ?_
    intro e b3 y1 y2 y3
    rw [mset_mset]
    have eo := y1 100 so (by decide)
    simp only [dLst, dA, dV, dA0, dCall, List.getElem?_cons_zero, List.getElem?_cons_succ]
    refine call_bent (n := 16) (b := b3) (m := 210) (mset_same _ _ _) eo (by decide) (by omega) (by omega) ?_
    intro e2 b4 u1 u2 u3
    rw [mset_mset]
    have e2o := u1 210 eo (by decide)
    refine call_name (b := b4) (mset_same _ _ _) (by omega) ?_
    intro x b5 x1 x2
    rw [mset_mset]
    refine call_letters (b := b5) (m := 8) (mset_same _ _ _) (by decide) (by decide) (by omega) ?_
    intro l j b6 l1 l2 l3 l4
    rw [mset_mset]
    have lo : od 100 (.str l) = true := by
      have := l1.1
      simp [od, lets_ok l1]; omega
    refine call_bent (n := 16) (b := b6) (m := 100) (mset_same _ _ _) lo (by decide) (by simp [depth]) (by omega) ?_
    intro e3 b7 v1 v2 v3
    rw [mset_mset]
    have e3o := v1 100 lo (by decide)
    simp only [oAdd_ll]
    refine ⟨by simp only [List.length_cons, List.length_nil]; omega, ?_⟩
    refine z b7 _ _ _ _ _ (by omega) (by simp only [List.length_append, List.length_cons, List.length_nil]; omega) ?_ q
    intro y hy
    rcases List.mem_append.mp hy with hy | hy
    · exact hf y hy
    · simp only [List.mem_cons, List.not_mem_nil, or_false] at hy
      simp only [depth] at v2
      rcases hy with rfl | rfl | rfl | rfl | rfl
      · exact ⟨od_mono (by omega) _ so, by omega⟩
      · exact ⟨od_mono (by omega) _ eo, by omega⟩
      · exact ⟨od_mono (by omega) _ e2o, by omega⟩
      · exact ⟨by have := nm_len x1; simp [od, nm_str x1]; omega, by simp [depth]⟩
      · exact ⟨od_mono (by omega) _ e3o, by omega⟩
theorem right_comp (M : Mem) (Q : DK) (ρ : Env) (r5 : 5 < ρ.length) : ∀ (xs : List D) (k : Nat), (∀ x ∈ xs, Fine x) → Q (.lst ((List.replicate (k + xs.length) true).map D.bl)) M →
    dCompL (gName 5) dYes (dCall sp_right (dA (dV 5) dA0)) ρ xs ((List.replicate k true).map D.bl) M Q := by
  intro xs
  induction xs with
  | nil => intro k _ q; simpa using q
  | cons x xs ih =>
    intro k h q
    have hx := h x (by simp)
    have g5 : (ρ.set 5 (some x))[5]? = some (some x) := by rw [List.getElem?_set_self r5]
    simp only [dCompL, gName, dYes, if_true, dCall, dA, dV, dA0, g5]
    refine call_right hx.1 hx.2 ?_
    have ea : (List.replicate k true).map D.bl ++ [D.bl true] = (List.replicate (k + 1) true).map D.bl := by rw [List.replicate_succ']; simp
    rw [ea]
    refine ih (k + 1) (fun y hy => h y (List.mem_cons_of_mem _ hy)) ?_
    rw [List.length_cons] at q
    rw [show k + 1 + xs.length = k + (xs.length + 1) by omega]
    exact q
def wordsL : List D := [.str "kind", .str "def", .str "either", .str "same", .str "truth", .str "skip", .str "name", .str "yes", .str "a", .str "abcdefgh", .str "abcdefghi", .str ""]
def wordsE : DE := (dLst (dA (dC (.str "kind")) (dA (dC (.str "def")) (dA (dC (.str "either")) (dA (dC (.str "same")) (dA (dC (.str "truth")) (dA (dC (.str "skip")) (dA (dC (.str "name")) (dA (dC (.str "yes")) (dA (dC (.str "a")) (dA (dC (.str "abcdefgh")) (dA (dC (.str "abcdefghi")) (dA (dC (.str "")) dA0)))))))))))))
theorem ev_words (ρ : Env) (M : Mem) (Q : DK) (q : Q (.lst wordsL) M) : wordsE ρ M Q := q
theorem words_fine : ∀ x ∈ wordsL, Fine x := by
  have h : (wordsL.all fun x => od 1000 x && decide (depth x ≤ 20)) = true := by decide +kernel
  intro x hx
  have := List.all_eq_true.mp h x hx
  simpa [Fine] using this
theorem t_law_eq (top : Int) : t_law sp_right (sp_bent 16) (sp_letters 0) (sp_name 0) (sp_any 0 5) sp_heads (sp_next 0 top) (sp_deck 0 1000000) = (sSeq (sAsg (dCall (sp_deck 0 1000000) (dA (dV 0) dA0)) (gName 1))
  (sSeq (sAsg (dLst dA0) (gName 2))
  (sSeq (sFor (iRange (dC (.int 12))) (gName 3) (lbody top))
  (sSeq (sAsg (dOp oAdd (dV 2) wordsE) (gName 2))
  (sRet (dUn oAll (dComp (iSeq (dOp oAdd (dV 2) (dCut (dV 2) dNoPart (dPart (dC (.int 5)))))) (gName 5) dYes (dCall sp_right (dA (dV 5) dA0)) [5]))))))) := rfl
theorem does_law (top : Int) : Does 7 (t_law sp_right (sp_bent 16) (sp_letters 0) (sp_name 0) (sp_any 0 5) sp_heads (sp_next 0 top) (sp_deck 0 1000000)) 1 sp_law := by
  rintro ds M hl ⟨ns, rfl, hlen, rfl⟩
  rw [t_law_eq]
  generalize hlb : lbody top = lb
  simp only [sSeq, sAsg, dCall, dA, dA0, dV, dLst, gName, start, List.map_cons, List.map_nil, List.length_cons, List.length_nil, List.replicate, List.cons_append, List.nil_append, List.getElem?_cons_zero, List.getElem?_cons_succ, List.set]
  refine ⟨⟨ns, rfl, hlen, rfl⟩, ?_⟩
  rintro d M1 ⟨dk, rfl, h1⟩
  have e1 : mset M1 dk (.deck 0 1000000) = M1 := mset_self h1
  rw [← e1]
  simp only [sFor, iRange, dC]
  refine ⟨by decide, ?_⟩
  rw [upTo_eq, ← hlb]
  refine law_loop top _ M1 dk _ 12 0 1000000 [] _ _ _ _ (by decide) (by decide) (by simp) ?_
  intro b ys o3 o4 o5 o6 hy hf
  simp only [sSeq, sAsg, dOp, dV, List.getElem?_cons_zero, List.getElem?_cons_succ]
  refine ev_words _ _ _ ?_
  have hw : wordsL.length = 12 := rfl
  have wf := words_fine
  generalize wordsL = wl at hw wf ⊢
  simp only [oAdd_ll]
  refine ⟨by omega, ?_⟩
  obtain ⟨zs, hzs⟩ : ∃ zs, zs = ys ++ wl := ⟨_, rfl⟩
  rw [← hzs]
  have zf : ∀ x ∈ zs, Fine x := by
    intro x hx
    rw [hzs] at hx
    rcases List.mem_append.mp hx with h | h
    · exact hf x h
    · exact wf x h
  have zl : zs.length ≤ 72 := by rw [hzs, List.length_append]; omega
  have cl := len_cut zs none (some 5)
  have f : Ret sp_law [.rol (ns.map D.int)] (fun _ => none) (.bl true) (mset M1 dk (.deck 0 b)) := Ret.now rfl
  have zc := right_comp (mset M1 dk (.deck 0 b)) (fun d M' => oAll d M' (Ret sp_law [.rol (ns.map D.int)] (fun _ => none))) [some (.rol (ns.map D.int)), some (.ref dk), some (.lst zs), o3, o4, none, o6] (by simp) (zs ++ cut zs none (some 5)) 0 (by
    intro x hx
    rcases List.mem_append.mp hx with h | h
    · exact zf x h
    · exact zf x (mem_cut h)) (by
    simp only [oAll_lst, bools_map]
    have : (List.replicate (0 + (zs ++ cut zs none (some 5)).length) true).all id = true := by simp
    rw [this]
    exact f)
  simp only [gName, List.set, sRet, dUn, dComp, iSeq, dOp, dV, dCut, dNoPart, dPart, dC, List.getElem?_cons_zero, List.getElem?_cons_succ, oCut_lst, oAdd_ll, wipe]
  refine ⟨by omega, by rw [List.length_append]; omega, ?_⟩
  exact zc
/-! ### the deck of kind nought, as it is made and drawn from -/
def smallI (ns : List Int) : Prop := ∀ x ∈ ns, 0 ≤ x ∧ x < 2147483629
theorem small_snoc {ns : List Int} {x : Int} (h : smallI ns) (h0 : 0 ≤ x) (h1 : x < 2147483629) : smallI (ns ++ [x]) := by
  intro y hy
  rcases List.mem_append.mp hy with hy | hy
  · exact h y hy
  · rw [List.mem_singleton.mp hy]; exact ⟨h0, h1⟩
/-- what lies where -/
structure DeckAt (M : Mem) (dk dg cl : Addr) (n : Int) (ds cs : List Int) : Prop where
  ne1 : dg ≠ cl
  ne2 : dg ≠ dk
  ne3 : cl ≠ dk
  at0 : M dk = some (.lst [.ref dg, .ref cl, .int n])
  at1 : M dg = some (.lst (intsD ds))
  at2 : M cl = some (.lst (intsD cs))
  s1 : smallI ds
  s2 : smallI cs
  nn : cs ≠ []
  n0 : 0 ≤ n
def sp_nextC : Spec := ⟨fun as M => ∃ dk dg cl n ds cs, as = [.ref dk] ∧ DeckAt M dk dg cl n ds cs ∧ n + 1 ≤ 2 ^ 40,
  fun as M d M' => ∀ dk dg cl n ds cs, as = [.ref dk] → DeckAt M dk dg cl n ds cs → ∃ (k n' : Int) (ds' : List Int), d = .int k ∧ 0 ≤ k ∧ k < 2147483629 ∧ M' = mset (mset M dk (.lst [.ref dg, .ref cl, .int n'])) dg (.lst (intsD ds')) ∧ 0 ≤ n' ∧ n' ≤ n + 1 ∧ smallI ds'⟩
theorem DeckAt.one {M : Mem} {dk dg cl dg' cl' : Addr} {n n' : Int} {ds cs ds' cs' : List Int} (a : DeckAt M dk dg cl n ds cs) (b : DeckAt M dk dg' cl' n' ds' cs') : dg' = dg ∧ cl' = cl ∧ n' = n ∧ ds' = ds ∧ cs' = cs := by
  have h := a.at0.symm.trans b.at0
  simp only [Option.some.injEq, MO.lst.injEq, List.cons.injEq, D.ref.injEq, D.int.injEq, and_true] at h
  obtain ⟨rfl, rfl, rfl⟩ := h
  have inj : ∀ {u v : List Int}, intsD u = intsD v → v = u := by
    intro u
    induction u with
    | nil => intro v h; cases v with
      | nil => rfl
      | cons y v => cases h
    | cons x u ih =>
      intro v h
      cases v with
      | nil => cases h
      | cons y v =>
        simp only [intsD, List.map_cons, List.cons.injEq, D.int.injEq] at h
        rw [h.1, ih h.2]
  have h1 := a.at1.symm.trans b.at1
  have h2 := a.at2.symm.trans b.at2
  simp only [Option.some.injEq, MO.lst.injEq] at h1 h2
  exact ⟨rfl, rfl, rfl, inj h1, inj h2⟩
theorem plain_ints : ∀ ns : List Int, plains (intsD ns) = true
  | [] => by simp [intsD, plains]
  | n :: r => by
    have := plain_ints r
    show plains (.int n :: intsD r) = true
    simp [plains, plain, this]
theorem depth_ints : ∀ ns : List Int, depths (intsD ns) ≤ 1
  | [] => by simp [intsD, depths]
  | n :: r => by
    have := depth_ints r
    show depths (.int n :: intsD r) ≤ 1
    simp only [depths, depth]
    omega
theorem cmp_ints (ns : List Int) : cmpOk (.lst (intsD ns)) = true := by
  have h1 := plain_ints ns
  have h2 : depths (intsD ns) + 1 ≤ 64 := by have := depth_ints ns; omega
  simp only [cmpOk, plain, depth, h1, Bool.true_and]
  exact decide_eq_true h2
theorem cmp_nil0 : cmpOk (.lst []) = true := by decide +kernel
theorem does_next : Does 3 t__law_next 1 sp_nextC := by
  rintro as M hl ⟨dk, dg, cl, n, ds, cs, rfl, A, hn⟩
  have h0 := A.at0
  have h1 := A.at1
  have h2 := A.at2
  cases ds with
  | cons x r =>
    have hx := A.s1 x (by simp)
    have hev : eqv (.lst (intsD (x :: r))) (.lst []) = false := by simp [intsD]
    have hc := cmp_ints (x :: r)
    have fin : Ret sp_nextC [.ref dk] M (.int x) (mset M dg (.lst (intsD r))) := by
      refine Ret.now fun dk' dg' cl' n' ds' cs' e B => ?_
      simp only [List.cons.injEq, D.ref.injEq, and_true] at e
      subst e
      obtain ⟨rfl, rfl, rfl, rfl, rfl⟩ := A.one B
      refine ⟨x, n', r, rfl, hx.1, hx.2, by rw [mset_self h0], A.n0, by omega, fun y hy => A.s1 y (List.mem_cons_of_mem _ hy)⟩
    simp [t__law_next, h0, h1, atI, ixN, hc, cmp_nil0, hev]
    exact fin
  | nil =>
    have hne : M dk = M dk := rfl
    have hpos : 0 < (cs.length : Int) := by
      have := List.length_pos_iff.mpr A.nn
      omega
    obtain ⟨c, hc, hcm⟩ : ∃ c, atI (intsD cs) ((n + 1) % (cs.length : Int)) = some (.int c) ∧ c ∈ cs := by
      have h1 := Int.emod_nonneg (n + 1) (Int.ne_of_gt hpos)
      have h2 := Int.emod_lt_of_pos (n + 1) hpos
      obtain ⟨j, hj⟩ := Int.eq_ofNat_of_zero_le h1
      rw [hj] at h2 ⊢
      have hj' : j < cs.length := by omega
      refine ⟨cs[j], ?_, List.getElem_mem hj'⟩
      rw [atI_nat' (by simpa [intsD] using hj')]
      simp [intsD]
    have hcs := A.s2 c hcm
    have hn0 := A.n0
    have ml : (mset M dk (.lst [.ref dg, .ref cl, .int (n + 1)])) cl = some (.lst (intsD cs)) := by rw [mset_ne A.ne3]; exact h2
    have hlen : (intsD cs).length = cs.length := by simp [intsD]
    have fin : ∀ k : Int, 0 ≤ k → k < 2147483629 → Ret sp_nextC [.ref dk] M (.int k) (mset M dk (.lst [.ref dg, .ref cl, .int (n + 1)])) := by
      intro k hk0 hk1
      refine Ret.now fun dk' dg' cl' n' ds' cs' e B => ?_
      simp only [List.cons.injEq, D.ref.injEq, and_true] at e
      subst e
      obtain ⟨rfl, rfl, rfl, rfl, rfl⟩ := A.one B
      refine ⟨k, n' + 1, [], rfl, hk0, hk1, ?_, by omega, by omega, fun y hy => by simp at hy⟩
      rw [mset_self (show mset M dk (.lst [.ref dg', .ref cl', .int (n' + 1)]) dg' = some (.lst (intsD [])) by rw [mset_ne A.ne2]; exact h1)]
    have e0 : intsD [] = [] := rfl
    rw [e0] at h1
    simp [t__law_next, h0, h1, atI3_0, atI3_1, atI3_2, ixN3, cmp_nil0, ml, hlen, hc]
    refine ⟨List.length_pos_iff.mpr A.nn, ?_⟩
    simp [hc, small]
    refine ⟨by omega, ?_⟩
    exact fin _ (Int.emod_nonneg _ (by decide)) (Int.emod_lt_of_pos _ (by decide))

/-! ### the deck is made -/
abbrev ktest : DT := dAnd (dTest (dOp oGe (dV 3) (dOp oPow (dC (.int 10)) (dC (.int 18))))) (dTest (dOp oLt (dUn oLen (dV 1)) (dC (.int 900))))
abbrev kbody : DS := (sSeq (sExpr (dMeth mAppend (dV 1) (dOp oMod (dV 3) (dC (.int 2147483629)))))
  (sAsg (dOp oFdiv (dV 3) (dC (.int 2147483629))) (gName 3)))
theorem deck_while (E : DEnds) (M : Mem) (dg cl : Addr) (hne : dg ≠ cl) (o0 : Option D) (cs : List Int)
    (fin : ∀ ds x, smallI ds → ds.length ≤ 900 → E.nx [o0, some (.ref dg), some (.ref cl), some (.int x)] (mset (mset M dg (.lst (intsD ds))) cl (.lst (intsD cs)))) : ∀ (m : Nat) (ds : List Int) (x : Int), ds.length + m = 900 → smallI ds →
    sWhileN ktest kbody (m + 1) E [o0, some (.ref dg), some (.ref cl), some (.int x)] (mset (mset M dg (.lst (intsD ds))) cl (.lst (intsD cs))) := by
  intro m
  induction m with
  | zero =>
    intro ds x hm hs
    have ml : ∀ A B, (mset (mset M dg A) cl B) dg = some A := fun A B => by rw [mset_ne hne, mset_same]
    have hl : (intsD ds).length = ds.length := by simp [intsD]
    have h9 : ds.length = 900 := by omega
    have f := fin ds x hs (by omega)
    simp only [sWhileN]
    simp [ml, hl, h9]
    exact f
  | succ m ih =>
    intro ds x hm hs
    have ml : ∀ A B, (mset (mset M dg A) cl B) dg = some A := fun A B => by rw [mset_ne hne, mset_same]
    have nf : ∀ A A' B', mset (mset (mset M dg A) cl B') dg A' = mset (mset M dg A') cl B' := fun A A' B' => by rw [mset_comm (Ne.symm hne), mset_mset]
    have hl : (intsD ds).length = ds.length := by simp [intsD]
    have f := fin ds x hs (by omega)
    have z := ih (ds ++ [x % 2147483629]) (x / 2147483629) (by simp; omega) (small_snoc hs (Int.emod_nonneg _ (by decide)) (Int.emod_lt_of_pos _ (by decide)))
    have ea : intsD (ds ++ [x % 2147483629]) = intsD ds ++ [.int (x % 2147483629)] := by simp [intsD]
    rw [ea] at z
    rw [sWhileN]
    by_cases hx : (1000000000000000000 : Int) ≤ x
    · have h9 : ds.length < 900 := by omega
      have h9' : (ds.length : Int) < 900 := by omega
      simp [ml, hl, hx, h9, h9', nf]
      exact ⟨by omega, z⟩
    · have hx' : decide ((1000000000000000000 : Int) ≤ x) = false := decide_eq_false hx
      simp [ml, hl, hx, hx']
      exact f
def sp_deckC : Spec := ⟨fun ds M => ∃ ns : List Int, ds = [.rol (ns.map D.int)] ∧ ns.length ≤ 63 ∧ M = fun _ => none,
  fun _ _ d M' => ∃ dk dg cl ds cs, d = .ref dk ∧ DeckAt M' dk dg cl 0 ds cs ∧ ∀ a, a ≠ dk → a ≠ dg → a ≠ cl → M' a = none⟩
theorem deck_for (E : DEnds) (M : Mem) (dg cl : Addr) (hne : dg ≠ cl) (o0 : Option D)
    (fin : ∀ ds cs o3, smallI ds → smallI cs → cs ≠ [] → E.nx [o0, some (.ref dg), some (.ref cl), o3] (mset (mset M dg (.lst (intsD ds))) cl (.lst (intsD cs)))) : ∀ (xs ds cs : List Int) (o3 : Option D), ds.length ≤ 900 → cs.length + xs.length ≤ 64 → smallI ds → smallI cs → cs ≠ [] →
    sLoop (gName 3) (sSeq (sAsg (dUn oAbs (dV 3)) (gName 3))
      (sSeq (sExpr (dMeth mAppend (dV 2) (dOp oMod (dV 3) (dC (.int 2147483629))))) (sWhile ktest kbody))) (xs.map D.int) E [o0, some (.ref dg), some (.ref cl), o3] (mset (mset M dg (.lst (intsD ds))) cl (.lst (intsD cs))) := by
  intro xs
  induction xs with
  | nil => intro ds cs o3 _ _ h1 h2 h3; exact fin ds cs o3 h1 h2 h3
  | cons x xs ih =>
    intro ds cs o3 hd hc h1 h2 h3
    have hl : (intsD cs).length = cs.length := by simp [intsD]
    simp only [List.length_cons] at hc
    simp only [List.map_cons, sLoop]
    have z := fun (y : Int) (h0 : 0 ≤ y % 2147483629) (h0' : y % 2147483629 < 2147483629) => deck_while { E with nx := sLoop (gName 3) (sSeq (sAsg (dUn oAbs (dV 3)) (gName 3)) (sSeq (sExpr (dMeth mAppend (dV 2) (dOp oMod (dV 3) (dC (.int 2147483629))))) (sWhile ktest kbody))) (xs.map D.int) E, ct := sLoop (gName 3) (sSeq (sAsg (dUn oAbs (dV 3)) (gName 3)) (sSeq (sExpr (dMeth mAppend (dV 2) (dOp oMod (dV 3) (dC (.int 2147483629))))) (sWhile ktest kbody))) (xs.map D.int) E, bk := E.nx } M dg cl hne o0 (cs ++ [y % 2147483629])
      (fun ds' x' hs' hd' => ih ds' (cs ++ [y % 2147483629]) _ hd' (by simp; omega) hs' (small_snoc h2 h0 h0') (by simp)) (900 - ds.length) ds y (by omega) h1
    have ea : ∀ y : Int, intsD (cs ++ [y]) = intsD cs ++ [.int y] := fun y => by simp [intsD]
    have z' := z (if x < 0 then -x else x) (Int.emod_nonneg _ (by decide)) (Int.emod_lt_of_pos _ (by decide))
    rw [ea] at z'
    generalize sLoop (gName 3) (sSeq (sAsg (dUn oAbs (dV 3)) (gName 3)) (sSeq (sExpr (dMeth mAppend (dV 2) (dOp oMod (dV 3) (dC (.int 2147483629))))) (sWhile ktest kbody))) (xs.map D.int) E = N at z' ⊢
    have z2 : ∃ n, sWhileN ktest kbody n { E with nx := N, ct := N, bk := E.nx } [o0, some (.ref dg), some (.ref cl), some (.int (if x < 0 then -x else x))] (mset (mset M dg (.lst (intsD ds))) cl (.lst (intsD cs ++ [.int ((if x < 0 then -x else x) % 2147483629)]))) := ⟨_, z'⟩
    change sWhile ktest kbody _ _ _ at z2
    generalize sWhile ktest kbody = W at z2 ⊢
    simp [hl]
    exact ⟨by omega, z2⟩
theorem does_deck : Does 4 t__law_deck 1 sp_deckC := by
  rintro as M hl ⟨ns, rfl, hns, rfl⟩
  show ∀ p, _ → _
  intro dg hdg
  show ∀ p, _ → _
  intro cl hcl
  have hne : dg ≠ cl := fun e => by rw [e, mset_same] at hcl; cases hcl
  have hcut : cut (ns.map D.int) none (some 63) = ns.map D.int := by
    simp [cut, sIx]
    exact List.take_of_length_le (by simp; omega)
  show sLoop (gName 3) (sSeq (sAsg (dUn oAbs (dV 3)) (gName 3))
      (sSeq (sExpr (dMeth mAppend (dV 2) (dOp oMod (dV 3) (dC (.int 2147483629))))) (sWhile ktest kbody))) (cut (ns.map D.int) none (some 63)) _ [some (.rol (ns.map D.int)), some (.ref dg), some (.ref cl), none] (mset (mset (fun _ => none) dg (.lst [])) cl (.lst [.int ((ns.map D.int).length : Int)]))
  rw [hcut, List.length_map]
  refine deck_for _ (fun _ => none) dg cl hne _ ?_ ns [] [(ns.length : Int)] none (by simp) (by simp; omega) (fun y hy => by simp at hy) (fun y hy => by simp at hy; subst hy; omega) (by simp)
  intro ds cs o3 h1 h2 h3
  show ∀ p, _ → _
  intro dk hdk
  have n1 : dk ≠ cl := fun e => by rw [e, mset_same] at hdk; cases hdk
  have n2 : dk ≠ dg := fun e => by rw [e, mset_ne hne, mset_same] at hdk; cases hdk
  refine Ret.now ⟨dk, dg, cl, ds, cs, rfl, ⟨hne, Ne.symm n2, Ne.symm n1, mset_same _ _ _, ?_, ?_, h1, h2, h3, by omega⟩, fun a a1 a2 a3 => ?_⟩
  · rw [mset_ne (Ne.symm n2), mset_ne hne, mset_same]
  · rw [mset_ne (Ne.symm n1), mset_same]
  · rw [mset_ne a1, mset_ne a3, mset_ne a2]
end DL
end
namespace DL
open PySem PySem.Spec PyProof.Rows L2
def top (i : Nat) : Stmt := PySem.Challenge.pw_needfill_k01_words_and_sayings.main.body.getD i (.Pass ⟨0, 0, 0, 0⟩)
section
variable {P : Program} {w : World} {K : PySem.W.Frag} {mg : Str → Option Value} {base : Heap} {k : Nat}
abbrev s_is_made_of : Stmt := top 7
abbrev N_is_made_of : List Str := ["thing", "signs", "most", "sign"]
theorem sc_is_made_of : FnScope N_is_made_of ["thing", "signs", "most"] (defScope s_is_made_of) := ⟨rfl, rfl, rfl, by decide +kernel, rfl, by decide +kernel, by decide +kernel⟩
theorem fn_is_made_of {a : Addr} {fd : FuncData} {sp : Spec} (F : FunD K "is_made_of" "is_made_of" (defArgs s_is_made_of) (defBody s_is_made_of) (defScope s_is_made_of) [] [] a fd) (hm : mg "is_made_of" = some (.ref a)) (m_isinstance : mg "isinstance" = none) (m_str : mg "str" = none) (m_len : mg "len" = none) (m_all : mg "all" = none) (does : Does 4 (t_is_made_of) 3 sp) : Fn P w K mg base (k + 1) "is_made_of" 3 sp := by
  refine ⟨a, fd, ["thing", "signs", "most"], def_ok F sc_is_made_of rfl (fun cdv A outer s H E hr => ?_) does, hm, F.kp, F.bindsN fun _ _ _ _ _ _ us hl => match us, hl with | [_, _, _], _ => rfl⟩
  have nd := sc_is_made_of.nd
  exact ⟨_, (rss_one (rs_ret (re_and (re_isi K (by decide +kernel) boot_str (by rfl) m_isinstance (by rfl) m_str (re_v 0)) (re_and (re_chain c_le c_le re_int (re_b1 (b_len K) PySem.boot_len (by rfl) m_len (re_v 0)) (re_v 2)) (re_one (re_b1 (b_all K (by rfl)) boot_all (by rfl) m_all (re_comp (by rfl) nd (ri_seq K (re_v 0)) (blkOk_by (own := [("sign", 3)]) (N := N_is_made_of) (sc := defScope s_is_made_of) (by decide +kernel)) (fun _ _ _ _ _ => (rg_name (i := 3) nd (by rfl) (by first | exact Or.inl rfl | exact Or.inr rfl))) (own_name (i := 3) (by decide)) (fun _ _ _ _ _ => rts_nil) (fun _ _ _ _ _ => (re_cmp (c_in K) (re_v 3) (re_v 1))))))))))⟩
abbrev s_is_word : Stmt := top 8
abbrev N_is_word : List Str := ["thing"]
theorem sc_is_word : FnScope N_is_word ["thing"] (defScope s_is_word) := ⟨rfl, rfl, rfl, by decide +kernel, rfl, by decide +kernel, by decide +kernel⟩
theorem fn_is_word {a : Addr} {fd : FuncData} {sp : Spec} (F : FunD K "is_word" "is_word" (defArgs s_is_word) (defBody s_is_word) (defScope s_is_word) [] [] a fd) (hm : mg "is_word" = some (.ref a)) {sp_is_made_of : Spec} (c_is_made_of : Fn P w K mg base k "is_made_of" 3 sp_is_made_of) {v_LETTERS : V} (h_LETTERS : Glob K mg "LETTERS" v_LETTERS g_LETTERS) {v_MOST_LETTERS : V} (h_MOST_LETTERS : Glob K mg "MOST_LETTERS" v_MOST_LETTERS g_MOST_LETTERS) {v_TAKEN : V} (h_TAKEN : Glob K mg "TAKEN" v_TAKEN g_TAKEN) (does : Does 1 (t_is_word sp_is_made_of) 1 sp) : Fn P w K mg base (k + 1) "is_word" 1 sp := by
  refine ⟨a, fd, ["thing"], def_ok F sc_is_word rfl (fun cdv A outer s H E hr => ?_) does, hm, F.kp, F.bindsN fun _ _ _ _ _ _ us hl => match us, hl with | [_], _ => rfl⟩
  have nd := sc_is_word.nd
  exact ⟨_, (rss_one (rs_ret (re_and (re_fn K c_is_made_of hr (by rfl) (ra_cons (re_v 0) (ra_cons (re_glob (by rfl) h_LETTERS) (ra_cons (re_glob (by rfl) h_MOST_LETTERS) ra_nil)))) (re_one (re_cmp (c_notIn K) (re_v 0) (re_glob (by rfl) h_TAKEN))))))⟩
abbrev s_is_new_name : Stmt := top 9
abbrev N_is_new_name : List Str := ["thing"]
theorem sc_is_new_name : FnScope N_is_new_name ["thing"] (defScope s_is_new_name) := ⟨rfl, rfl, rfl, by decide +kernel, rfl, by decide +kernel, by decide +kernel⟩
theorem fn_is_new_name {a : Addr} {fd : FuncData} {sp : Spec} (F : FunD K "is_new_name" "is_new_name" (defArgs s_is_new_name) (defBody s_is_new_name) (defScope s_is_new_name) [] [] a fd) (hm : mg "is_new_name" = some (.ref a)) {sp_is_made_of : Spec} (c_is_made_of : Fn P w K mg base k "is_made_of" 3 sp_is_made_of) {v_FIGURES : V} (h_FIGURES : Glob K mg "FIGURES" v_FIGURES g_FIGURES) {v_MOST_FIGURES : V} (h_MOST_FIGURES : Glob K mg "MOST_FIGURES" v_MOST_FIGURES g_MOST_FIGURES) (does : Does 1 (t_is_new_name sp_is_made_of) 1 sp) : Fn P w K mg base (k + 1) "is_new_name" 1 sp := by
  refine ⟨a, fd, ["thing"], def_ok F sc_is_new_name rfl (fun cdv A outer s H E hr => ?_) does, hm, F.kp, F.bindsN fun _ _ _ _ _ _ us hl => match us, hl with | [_], _ => rfl⟩
  have nd := sc_is_new_name.nd
  exact ⟨_, (rss_one (rs_ret (re_and (re_fn K c_is_made_of hr (by rfl) (ra_cons (re_v 0) (ra_cons (re_glob (by rfl) h_FIGURES) (ra_cons (re_glob (by rfl) h_MOST_FIGURES) ra_nil)))) (re_one (re_cmp (c_ne K hr) (re_ix K (re_v 0) re_int) re_str)))))⟩
abbrev s_is_row : Stmt := top 10
abbrev N_is_row : List Str := ["thing", "most", "least"]
theorem sc_is_row : FnScope N_is_row ["thing", "most", "least"] (defScope s_is_row) := ⟨rfl, rfl, rfl, by decide +kernel, rfl, by decide +kernel, by decide +kernel⟩
theorem fn_is_row {a : Addr} {fd : FuncData} {sp : Spec} (F : FunD K "is_row" "is_row" (defArgs s_is_row) (defBody s_is_row) (defScope s_is_row) [.int 0] [] a fd) (hm : mg "is_row" = some (.ref a)) (m_isinstance : mg "isinstance" = none) (m_tuple : mg "tuple" = none) (m_len : mg "len" = none) (does : Does 3 (t_is_row) 3 sp) : Fn P w K mg base (k + 1) "is_row" 3 sp ∧ FnD P w K mg base (k + 1) "is_row" 3 [.int 0] sp := by
  have ok : FnOk P w K mg base CX0 (k + 1) a fd ["thing", "most", "least"] (toSp K 3 sp) := by
   refine def_ok F sc_is_row rfl (fun cdv A outer s H E hr => ?_) does
   have nd := sc_is_row.nd
   exact ⟨_, (rss_one (rs_ret (re_and (re_isi K (by decide +kernel) boot_tuple (by rfl) m_isinstance (by rfl) m_tuple (re_v 0)) (re_one (re_chain c_le c_le (re_v 2) (re_b1 (b_len K) PySem.boot_len (by rfl) m_len (re_v 0)) (re_v 1))))))⟩
  obtain ⟨d1, r1, b1⟩ := F.binds1 (ps := ["thing", "most", "least"]) 3 1 (by simp) rfl (fun T kV doc pm an cdv ct us its hl hi => match us, its, hl, hi with | [_, _, _], [_], _, _ => ⟨_, rfl, rfl⟩)
  obtain ⟨d2, r2, b2⟩ := F.binds1 (ps := ["thing", "most", "least"]) 2 0 (by simp) rfl (fun T kV doc pm an cdv ct us its hl hi => match us, its, hl, hi with | [_, _], [_], _, _ => ⟨_, rfl, rfl⟩)
  cases r1
  exact ⟨⟨a, fd, _, ok, hm, F.kp, b1⟩, ⟨a, fd, _, d2, ok, hm, F.kp, b2, r2, fun Pr H M => ⟨_, _, rfl, rfl, rfl⟩⟩⟩
abbrev s_is_headed : Stmt := top 11
abbrev N_is_headed : List Str := ["thing", "word", "many"]
theorem sc_is_headed : FnScope N_is_headed ["thing", "word", "many"] (defScope s_is_headed) := ⟨rfl, rfl, rfl, by decide +kernel, rfl, by decide +kernel, by decide +kernel⟩
theorem fn_is_headed {a : Addr} {fd : FuncData} {sp : Spec} (F : FunD K "is_headed" "is_headed" (defArgs s_is_headed) (defBody s_is_headed) (defScope s_is_headed) [] [] a fd) (hm : mg "is_headed" = some (.ref a)) {sp_is_row : Spec} (c_is_row : Fn P w K mg base k "is_row" 3 sp_is_row) (m_isinstance : mg "isinstance" = none) (m_str : mg "str" = none) (does : Does 3 (t_is_headed sp_is_row) 3 sp) : Fn P w K mg base (k + 1) "is_headed" 3 sp := by
  refine ⟨a, fd, ["thing", "word", "many"], def_ok F sc_is_headed rfl (fun cdv A outer s H E hr => ?_) does, hm, F.kp, F.bindsN fun _ _ _ _ _ _ us hl => match us, hl with | [_, _, _], _ => rfl⟩
  have nd := sc_is_headed.nd
  exact ⟨_, (rss_one (rs_ret (re_and (re_fn K c_is_row hr (by rfl) (ra_cons (re_v 0) (ra_cons (re_v 2) (ra_cons (re_v 2) ra_nil)))) (re_and (re_isi K (by decide +kernel) boot_str (by rfl) m_isinstance (by rfl) m_str (re_ix K (re_v 0) re_int)) (re_one (re_cmp (c_eq K hr) (re_ix K (re_v 0) re_int) (re_v 1)))))))⟩
abbrev s_is_named : Stmt := top 12
abbrev N_is_named : List Str := ["thing"]
theorem sc_is_named : FnScope N_is_named ["thing"] (defScope s_is_named) := ⟨rfl, rfl, rfl, by decide +kernel, rfl, by decide +kernel, by decide +kernel⟩
theorem fn_is_named {a : Addr} {fd : FuncData} {sp : Spec} (F : FunD K "is_named" "is_named" (defArgs s_is_named) (defBody s_is_named) (defScope s_is_named) [] [] a fd) (hm : mg "is_named" = some (.ref a)) {sp_is_headed : Spec} (c_is_headed : Fn P w K mg base k "is_headed" 3 sp_is_headed) {sp_is_word : Spec} (c_is_word : Fn P w K mg base k "is_word" 1 sp_is_word) {sp_is_new_name : Spec} (c_is_new_name : Fn P w K mg base k "is_new_name" 1 sp_is_new_name) (does : Does 1 (t_is_named sp_is_headed sp_is_word sp_is_new_name) 1 sp) : Fn P w K mg base (k + 1) "is_named" 1 sp := by
  refine ⟨a, fd, ["thing"], def_ok F sc_is_named rfl (fun cdv A outer s H E hr => ?_) does, hm, F.kp, F.bindsN fun _ _ _ _ _ _ us hl => match us, hl with | [_], _ => rfl⟩
  have nd := sc_is_named.nd
  exact ⟨_, (rss_one (rs_ret (re_and (re_fn K c_is_headed hr (by rfl) (ra_cons (re_v 0) (ra_cons re_str (ra_cons re_int ra_nil)))) (re_one (re_or (re_fn K c_is_word hr (by rfl) (ra_cons (re_ix K (re_v 0) re_int) ra_nil)) (re_one (re_fn K c_is_new_name hr (by rfl) (ra_cons (re_ix K (re_v 0) re_int) ra_nil))))))))⟩
abbrev s_is_built : Stmt := top 13
abbrev N_is_built : List Str := ["thing", "word"]
theorem sc_is_built : FnScope N_is_built ["thing", "word"] (defScope s_is_built) := ⟨rfl, rfl, rfl, by decide +kernel, rfl, by decide +kernel, by decide +kernel⟩
theorem fn_is_built {a : Addr} {fd : FuncData} {sp : Spec} (F : FunD K "is_built" "is_built" (defArgs s_is_built) (defBody s_is_built) (defScope s_is_built) [] [] a fd) (hm : mg "is_built" = some (.ref a)) {sp_is_headed : Spec} (c_is_headed : Fn P w K mg base k "is_headed" 3 sp_is_headed) {sp_is_word : Spec} (c_is_word : Fn P w K mg base k "is_word" 1 sp_is_word) {sp_is_row : Spec} (c_is_row_d1 : FnD P w K mg base k "is_row" 3 [.int 0] sp_is_row) {v_MOST_PARTS : V} (h_MOST_PARTS : Glob K mg "MOST_PARTS" v_MOST_PARTS g_MOST_PARTS) (does : Does 2 (t_is_built sp_is_headed sp_is_word sp_is_row) 2 sp) : Fn P w K mg base (k + 1) "is_built" 2 sp := by
  refine ⟨a, fd, ["thing", "word"], def_ok F sc_is_built rfl (fun cdv A outer s H E hr => ?_) does, hm, F.kp, F.bindsN fun _ _ _ _ _ _ us hl => match us, hl with | [_, _], _ => rfl⟩
  have nd := sc_is_built.nd
  exact ⟨_, (rss_one (rs_ret (re_and (re_fn K c_is_headed hr (by rfl) (ra_cons (re_v 0) (ra_cons (re_v 1) (ra_cons re_int ra_nil)))) (re_and (re_fn K c_is_word hr (by rfl) (ra_cons (re_ix K (re_v 0) re_int) ra_nil)) (re_one (re_fnD K c_is_row_d1 hr (by rfl) (ra_cons (re_ix K (re_v 0) re_int) (ra_cons (re_glob (by rfl) h_MOST_PARTS) ra_nil))))))))⟩
abbrev s_is_saying : Stmt := top 14
abbrev N_is_saying : List Str := ["thing", "part"]
theorem sc_is_saying : FnScope N_is_saying ["thing"] (defScope s_is_saying) := ⟨rfl, rfl, rfl, by decide +kernel, rfl, by decide +kernel, by decide +kernel⟩
theorem fn_is_saying {a : Addr} {fd : FuncData} {sp : Spec} (F : FunD K "is_saying" "is_saying" (defArgs s_is_saying) (defBody s_is_saying) (defScope s_is_saying) [] [] a fd) (hm : mg "is_saying" = some (.ref a)) {sp_is_headed : Spec} (c_is_headed : Fn P w K mg base k "is_headed" 3 sp_is_headed) {sp_is_saying : Spec} (c_is_saying : Fn P w K mg base k "is_saying" 1 sp_is_saying) {sp_is_built : Spec} (c_is_built : Fn P w K mg base k "is_built" 2 sp_is_built) {sp_is_named : Spec} (c_is_named : Fn P w K mg base k "is_named" 1 sp_is_named) (m_all : mg "all" = none) (does : Does 2 (t_is_saying sp_is_headed sp_is_saying sp_is_built sp_is_named) 1 sp) : Fn P w K mg base (k + 1) "is_saying" 1 sp := by
  refine ⟨a, fd, ["thing"], def_ok F sc_is_saying rfl (fun cdv A outer s H E hr => ?_) does, hm, F.kp, F.bindsN fun _ _ _ _ _ _ us hl => match us, hl with | [_], _ => rfl⟩
  have nd := sc_is_saying.nd
  exact ⟨_, (rss_cons (rs_if (rt_w (rw_or (rt_val (re_fn K c_is_named hr (by rfl) (ra_cons (re_v 0) ra_nil))) (rw_or1 (rt_val (re_fn K c_is_headed hr (by rfl) (ra_cons (re_v 0) (ra_cons re_str (ra_cons re_int ra_nil)))))))) (rss_one (rs_ret re_bl)) rss_nil)
  (rss_cons (rs_if (rt_w (rw_or (rt_val (re_fn K c_is_built hr (by rfl) (ra_cons (re_v 0) (ra_cons re_str ra_nil)))) (rw_or1 (rt_val (re_fn K c_is_built hr (by rfl) (ra_cons (re_v 0) (ra_cons re_str ra_nil))))))) (rss_one (rs_ret (re_b1 (b_all K (by rfl)) boot_all (by rfl) m_all (re_comp (by rfl) nd (ri_seq K (re_ix K (re_v 0) re_int)) (blkOk_by (own := [("part", 1)]) (N := N_is_saying) (sc := defScope s_is_saying) (by decide +kernel)) (fun _ _ _ _ _ => (rg_name (i := 1) nd (by rfl) (by first | exact Or.inl rfl | exact Or.inr rfl))) (own_name (i := 1) (by decide)) (fun _ _ _ _ _ => rts_nil) (fun _ _ _ _ _ => (re_fn K c_is_saying hr (by rfl) (ra_cons (re_v 1) ra_nil))))))) rss_nil)
  (rss_cons (rs_if (rt_w (rw_or (rt_val (re_fn K c_is_headed hr (by rfl) (ra_cons (re_v 0) (ra_cons re_str (ra_cons re_int ra_nil))))) (rw_or1 (rt_val (re_fn K c_is_headed hr (by rfl) (ra_cons (re_v 0) (ra_cons re_str (ra_cons re_int ra_nil)))))))) (rss_one (rs_ret (re_and (re_fn K c_is_saying hr (by rfl) (ra_cons (re_ix K (re_v 0) re_int) ra_nil)) (re_one (re_fn K c_is_saying hr (by rfl) (ra_cons (re_ix K (re_v 0) re_int) ra_nil)))))) rss_nil)
  (rss_one (rs_ret re_bl)))))⟩
abbrev s_is_thing : Stmt := top 15
abbrev N_is_thing : List Str := ["thing", "part"]
theorem sc_is_thing : FnScope N_is_thing ["thing"] (defScope s_is_thing) := ⟨rfl, rfl, rfl, by decide +kernel, rfl, by decide +kernel, by decide +kernel⟩
theorem fn_is_thing {a : Addr} {fd : FuncData} {sp : Spec} (F : FunD K "is_thing" "is_thing" (defArgs s_is_thing) (defBody s_is_thing) (defScope s_is_thing) [] [] a fd) (hm : mg "is_thing" = some (.ref a)) {sp_is_named : Spec} (c_is_named : Fn P w K mg base k "is_named" 1 sp_is_named) {sp_is_built : Spec} (c_is_built : Fn P w K mg base k "is_built" 2 sp_is_built) {sp_is_thing : Spec} (c_is_thing : Fn P w K mg base k "is_thing" 1 sp_is_thing) (m_all : mg "all" = none) (does : Does 2 (t_is_thing sp_is_named sp_is_built sp_is_thing) 1 sp) : Fn P w K mg base (k + 1) "is_thing" 1 sp := by
  refine ⟨a, fd, ["thing"], def_ok F sc_is_thing rfl (fun cdv A outer s H E hr => ?_) does, hm, F.kp, F.bindsN fun _ _ _ _ _ _ us hl => match us, hl with | [_], _ => rfl⟩
  have nd := sc_is_thing.nd
  exact ⟨_, (rss_cons (rs_if (rt_val (re_fn K c_is_built hr (by rfl) (ra_cons (re_v 0) (ra_cons re_str ra_nil)))) (rss_one (rs_ret (re_b1 (b_all K (by rfl)) boot_all (by rfl) m_all (re_comp (by rfl) nd (ri_seq K (re_ix K (re_v 0) re_int)) (blkOk_by (own := [("part", 1)]) (N := N_is_thing) (sc := defScope s_is_thing) (by decide +kernel)) (fun _ _ _ _ _ => (rg_name (i := 1) nd (by rfl) (by first | exact Or.inl rfl | exact Or.inr rfl))) (own_name (i := 1) (by decide)) (fun _ _ _ _ _ => rts_nil) (fun _ _ _ _ _ => (re_fn K c_is_thing hr (by rfl) (ra_cons (re_v 1) ra_nil))))))) rss_nil)
  (rss_one (rs_ret (re_fn K c_is_named hr (by rfl) (ra_cons (re_v 0) ra_nil)))))⟩
abbrev s_is_plain : Stmt := top 16
abbrev N_is_plain : List Str := ["thing", "part"]
theorem sc_is_plain : FnScope N_is_plain ["thing"] (defScope s_is_plain) := ⟨rfl, rfl, rfl, by decide +kernel, rfl, by decide +kernel, by decide +kernel⟩
theorem fn_is_plain {a : Addr} {fd : FuncData} {sp : Spec} (F : FunD K "is_plain" "is_plain" (defArgs s_is_plain) (defBody s_is_plain) (defScope s_is_plain) [] [] a fd) (hm : mg "is_plain" = some (.ref a)) {sp_is_built : Spec} (c_is_built : Fn P w K mg base k "is_built" 2 sp_is_built) {sp_is_plain : Spec} (c_is_plain : Fn P w K mg base k "is_plain" 1 sp_is_plain) (m_all : mg "all" = none) (does : Does 2 (t_is_plain sp_is_built sp_is_plain) 1 sp) : Fn P w K mg base (k + 1) "is_plain" 1 sp := by
  refine ⟨a, fd, ["thing"], def_ok F sc_is_plain rfl (fun cdv A outer s H E hr => ?_) does, hm, F.kp, F.bindsN fun _ _ _ _ _ _ us hl => match us, hl with | [_], _ => rfl⟩
  have nd := sc_is_plain.nd
  exact ⟨_, (rss_one (rs_ret (re_and (re_fn K c_is_built hr (by rfl) (ra_cons (re_v 0) (ra_cons re_str ra_nil))) (re_one (re_b1 (b_all K (by rfl)) boot_all (by rfl) m_all (re_comp (by rfl) nd (ri_seq K (re_ix K (re_v 0) re_int)) (blkOk_by (own := [("part", 1)]) (N := N_is_plain) (sc := defScope s_is_plain) (by decide +kernel)) (fun _ _ _ _ _ => (rg_name (i := 1) nd (by rfl) (by first | exact Or.inl rfl | exact Or.inr rfl))) (own_name (i := 1) (by decide)) (fun _ _ _ _ _ => rts_nil) (fun _ _ _ _ _ => (re_fn K c_is_plain hr (by rfl) (ra_cons (re_v 1) ra_nil)))))))))⟩
abbrev s__law_deck : Stmt := top 18
abbrev N__law_deck : List Str := ["_law_script", "_law_digits", "_law_cells", "_law_cell"]
theorem sc__law_deck : FnScope N__law_deck ["_law_script"] (defScope s__law_deck) := ⟨rfl, rfl, rfl, by decide +kernel, rfl, by decide +kernel, by decide +kernel⟩
theorem fn__law_deck {a : Addr} {fd : FuncData} {sp : Spec} (F : FunD K "_law_deck" "_law_deck" (defArgs s__law_deck) (defBody s__law_deck) (defScope s__law_deck) [] [] a fd) (hm : mg "_law_deck" = some (.ref a)) (m_len : mg "len" = none) (m_abs : mg "abs" = none) (does : Does 4 (t__law_deck) 1 sp) : Fn P w K mg base (k + 1) "_law_deck" 1 sp := by
  refine ⟨a, fd, ["_law_script"], def_ok F sc__law_deck rfl (fun cdv A outer s H E hr => ?_) does, hm, F.kp, F.bindsN fun _ _ _ _ _ _ us hl => match us, hl with | [_], _ => rfl⟩
  have nd := sc__law_deck.nd
  exact ⟨_, (rss_cons (rs_set (i := 1) nd rfl (by first | exact Or.inl rfl | exact Or.inr rfl) (re_new ra_nil))
  (rss_cons (rs_set (i := 2) nd rfl (by first | exact Or.inl rfl | exact Or.inr rfl) (re_new (ra_cons (re_b1 (b_len K) PySem.boot_len (by rfl) m_len (re_v 0)) ra_nil)))
  (rss_cons (rs_for PassesOwn.never rfl (ri_seq K (re_cut K (re_v 0) ro_none (ro_some re_int))) (rg_name (i := 3) nd (by rfl) (by first | exact Or.inl rfl | exact Or.inr rfl)) (rss_cons (rs_set (i := 3) nd rfl (by first | exact Or.inl rfl | exact Or.inr rfl) (re_b1 b_abs boot_abs (by rfl) m_abs (re_v 3)))
  (rss_cons (rs_expr (re_append K (re_v 2) (re_mod (re_v 3) re_int)))
  (rss_one (rs_while PassesOwn.never (rt_w (rw_and (rt_cmp c_ge (re_v 3) (re_pow re_int re_int)) (rw_and1 (rt_cmp c_lt (re_b1 (b_len K) PySem.boot_len (by rfl) m_len (re_v 1)) re_int)))) (rss_cons (rs_expr (re_append K (re_v 1) (re_mod (re_v 3) re_int)))
  (rss_one (rs_set (i := 3) nd rfl (by first | exact Or.inl rfl | exact Or.inr rfl) (re_fdiv (re_v 3) re_int)))))))))
  (rss_one (rs_ret (re_new (ra_cons (re_v 1) (ra_cons (re_v 2) (ra_cons re_int ra_nil)))))))))⟩
abbrev s__law_next : Stmt := top 19
abbrev N__law_next : List Str := ["_law_deck_here", "_law_at", "_law_cell"]
theorem sc__law_next : FnScope N__law_next ["_law_deck_here"] (defScope s__law_next) := ⟨rfl, rfl, rfl, by decide +kernel, rfl, by decide +kernel, by decide +kernel⟩
theorem fn__law_next {a : Addr} {fd : FuncData} {sp : Spec} (F : FunD K "_law_next" "_law_next" (defArgs s__law_next) (defBody s__law_next) (defScope s__law_next) [] [] a fd) (hm : mg "_law_next" = some (.ref a)) (m_len : mg "len" = none) (does : Does 3 (t__law_next) 1 sp) : Fn P w K mg base (k + 1) "_law_next" 1 sp := by
  refine ⟨a, fd, ["_law_deck_here"], def_ok F sc__law_next rfl (fun cdv A outer s H E hr => ?_) does, hm, F.kp, F.bindsN fun _ _ _ _ _ _ us hl => match us, hl with | [_], _ => rfl⟩
  have nd := sc__law_next.nd
  exact ⟨_, (rss_cons (rs_if (rt_cmp (c_ne K hr) (re_ix K (re_v 0) re_int) (re_lst ra_nil)) (rss_one (rs_ret (re_popAt K (re_ix K (re_v 0) re_int) re_int))) rss_nil)
  (rss_cons (rs_set (i := 1) nd rfl (by first | exact Or.inl rfl | exact Or.inr rfl) (re_ix K (re_v 0) re_int))
  (rss_cons (rs_asg (re_add K (re_v 1) re_int) (rg_sub (re_v 0) re_int))
  (rss_cons (rs_set (i := 2) nd rfl (by first | exact Or.inl rfl | exact Or.inr rfl) (re_add K (re_ix K (re_ix K (re_v 0) re_int) (re_mod (re_add K (re_v 1) re_int) (re_b1 (b_len K) PySem.boot_len (by rfl) m_len (re_ix K (re_v 0) re_int)))) (re_mul re_int (re_v 1))))
  (rss_one (rs_ret (re_mod (re_add K (re_mod (re_pow (re_add K (re_v 2) (re_mul re_int (re_add K (re_v 1) re_int))) re_int) re_int) (re_mul re_int (re_v 2))) re_int)))))))⟩
abbrev s__law_letters : Stmt := top 20
abbrev N__law_letters : List Str := ["_law_deck_here", "_law_most", "_law_number", "_law_found", "_law_k"]
theorem sc__law_letters : FnScope N__law_letters ["_law_deck_here", "_law_most"] (defScope s__law_letters) := ⟨rfl, rfl, rfl, by decide +kernel, rfl, by decide +kernel, by decide +kernel⟩
theorem fn__law_letters {a : Addr} {fd : FuncData} {sp : Spec} (F : FunD K "_law_letters" "_law_letters" (defArgs s__law_letters) (defBody s__law_letters) (defScope s__law_letters) [] [] a fd) (hm : mg "_law_letters" = some (.ref a)) {sp__law_next : Spec} (c__law_next : Fn P w K mg base k "_law_next" 1 sp__law_next) (m_range : mg "range" = none) (does : Does 5 (t__law_letters sp__law_next) 2 sp) : Fn P w K mg base (k + 1) "_law_letters" 2 sp := by
  refine ⟨a, fd, ["_law_deck_here", "_law_most"], def_ok F sc__law_letters rfl (fun cdv A outer s H E hr => ?_) does, hm, F.kp, F.bindsN fun _ _ _ _ _ _ us hl => match us, hl with | [_, _], _ => rfl⟩
  have nd := sc__law_letters.nd
  exact ⟨_, (rss_cons (rs_set (i := 2) nd rfl (by first | exact Or.inl rfl | exact Or.inr rfl) (re_fn K c__law_next hr (by rfl) (ra_cons (re_v 0) ra_nil)))
  (rss_cons (rs_set (i := 3) nd rfl (by first | exact Or.inl rfl | exact Or.inr rfl) re_str)
  (rss_cons (rs_for PassesOwn.never rfl (ri_range (by rfl) m_range (re_add K re_int (re_mod (re_v 2) (re_v 1)))) (rg_name (i := 4) nd (by rfl) (by first | exact Or.inl rfl | exact Or.inr rfl)) (rss_one (rs_set (i := 3) nd rfl (by first | exact Or.inl rfl | exact Or.inr rfl) (re_add K (re_v 3) (re_ix K re_str (re_mod (re_fn K c__law_next hr (by rfl) (ra_cons (re_v 0) ra_nil)) re_int))))))
  (rss_one (rs_ret (re_v 3))))))⟩
abbrev s__law_name : Stmt := top 21
abbrev N__law_name : List Str := ["_law_deck_here", "_law_number", "_law_some", "_law_found"]
theorem sc__law_name : FnScope N__law_name ["_law_deck_here"] (defScope s__law_name) := ⟨rfl, rfl, rfl, by decide +kernel, rfl, by decide +kernel, by decide +kernel⟩
theorem fn__law_name {a : Addr} {fd : FuncData} {sp : Spec} (F : FunD K "_law_name" "_law_name" (defArgs s__law_name) (defBody s__law_name) (defScope s__law_name) [] [] a fd) (hm : mg "_law_name" = some (.ref a)) {sp__law_letters : Spec} (c__law_letters : Fn P w K mg base k "_law_letters" 2 sp__law_letters) {sp__law_next : Spec} (c__law_next : Fn P w K mg base k "_law_next" 1 sp__law_next) (m_int : mg "int" = none) (m_str : mg "str" = none) (does : Does 4 (t__law_name sp__law_letters sp__law_next) 1 sp) : Fn P w K mg base (k + 1) "_law_name" 1 sp := by
  refine ⟨a, fd, ["_law_deck_here"], def_ok F sc__law_name rfl (fun cdv A outer s H E hr => ?_) does, hm, F.kp, F.bindsN fun _ _ _ _ _ _ us hl => match us, hl with | [_], _ => rfl⟩
  have nd := sc__law_name.nd
  exact ⟨_, (rss_cons (rs_set (i := 1) nd rfl (by first | exact Or.inl rfl | exact Or.inr rfl) (re_fn K c__law_next hr (by rfl) (ra_cons (re_v 0) ra_nil)))
  (rss_cons (rs_set (i := 2) nd rfl (by first | exact Or.inl rfl | exact Or.inr rfl) (re_lst (ra_cons re_str (ra_cons re_str (ra_cons re_str (ra_cons re_str (ra_cons re_str (ra_cons re_str (ra_cons re_str (ra_cons re_str ra_nil))))))))))
  (rss_cons (rs_if (rt_cmp c_lt (re_mod (re_v 1) re_int) re_int) (rss_one (rs_ret (re_ix K (re_v 2) (re_mod (re_fdiv (re_v 1) re_int) re_int)))) rss_nil)
  (rss_cons (rs_if (rt_cmp (c_eq K hr) (re_mod (re_v 1) re_int) re_int) (rss_one (rs_ret (re_bT b_str boot_str (by rfl) m_str (re_add K re_int (re_mod (re_fdiv (re_v 1) re_int) re_int))))) rss_nil)
  (rss_cons (rs_set (i := 3) nd rfl (by first | exact Or.inl rfl | exact Or.inr rfl) (re_fn K c__law_letters hr (by rfl) (ra_cons (re_v 0) (ra_cons re_int ra_nil))))
  (rss_one (rs_ret (re_ix K (re_lst (ra_cons (re_v 3) (ra_cons re_str ra_nil))) (re_bT b_int boot_int (by rfl) m_int (re_cmp (c_in K) (re_v 3) (re_lst (ra_cons re_str (ra_cons re_str (ra_cons re_str (ra_cons re_str (ra_cons re_str ra_nil))))))))))))))))⟩
abbrev s__law_any : Stmt := top 22
abbrev N__law_any : List Str := ["_law_deck_here", "_law_heads_here", "_law_left", "_law_number", "_law_word", "_law_one", "_law_many", "_law_head", "_law_k"]
theorem sc__law_any : FnScope N__law_any ["_law_deck_here", "_law_heads_here", "_law_left"] (defScope s__law_any) := ⟨rfl, rfl, rfl, by decide +kernel, rfl, by decide +kernel, by decide +kernel⟩
theorem fn__law_any {a : Addr} {fd : FuncData} {sp : Spec} (F : FunD K "_law_any" "_law_any" (defArgs s__law_any) (defBody s__law_any) (defScope s__law_any) [] [] a fd) (hm : mg "_law_any" = some (.ref a)) {sp__law_any : Spec} (c__law_any : Fn P w K mg base k "_law_any" 3 sp__law_any) {sp__law_name : Spec} (c__law_name : Fn P w K mg base k "_law_name" 1 sp__law_name) {sp__law_next : Spec} (c__law_next : Fn P w K mg base k "_law_next" 1 sp__law_next) (m_range : mg "range" = none) (m_tuple : mg "tuple" = none) (m_int : mg "int" = none) (m_len : mg "len" = none) (does : Does 9 (t__law_any sp__law_any sp__law_name sp__law_next) 3 sp) : Fn P w K mg base (k + 1) "_law_any" 3 sp := by
  refine ⟨a, fd, ["_law_deck_here", "_law_heads_here", "_law_left"], def_ok F sc__law_any rfl (fun cdv A outer s H E hr => ?_) does, hm, F.kp, F.bindsN fun _ _ _ _ _ _ us hl => match us, hl with | [_, _, _], _ => rfl⟩
  have nd := sc__law_any.nd
  exact ⟨_, (rss_cons (rs_set (i := 3) nd rfl (by first | exact Or.inl rfl | exact Or.inr rfl) (re_fn K c__law_next hr (by rfl) (ra_cons (re_v 0) ra_nil)))
  (rss_cons (rs_set (i := 4) nd rfl (by first | exact Or.inl rfl | exact Or.inr rfl) (re_ix K (re_v 1) (re_mod (re_v 3) (re_b1 (b_len K) PySem.boot_len (by rfl) m_len (re_v 1)))))
  (rss_cons (rs_if (rt_w (rw_and (rt_cmp c_lt (re_v 2) re_int) (rw_and1 (rt_cmp (c_notIn K) (re_v 4) (re_lst (ra_cons re_str (ra_cons re_str ra_nil))))))) (rss_one (rs_set (i := 4) nd rfl (by first | exact Or.inl rfl | exact Or.inr rfl) (re_ix K (re_lst (ra_cons re_str (ra_cons re_str ra_nil))) (re_bT b_int boot_int (by rfl) m_int (re_or (re_cmp (c_notIn K) re_str (re_v 1)) (re_one (re_cmp (c_eq K hr) (re_mod (re_fdiv (re_v 3) re_int) re_int) re_int))))))) rss_nil)
  (rss_cons (rs_if (rt_cmp (c_eq K hr) (re_v 4) re_str) (rss_one (rs_ret (re_tup (ra_cons re_str ra_nil)))) rss_nil)
  (rss_cons (rs_if (rt_cmp (c_eq K hr) (re_v 4) re_str) (rss_one (rs_ret (re_tup (ra_cons re_str (ra_cons (re_fn K c__law_name hr (by rfl) (ra_cons (re_v 0) ra_nil)) ra_nil))))) rss_nil)
  (rss_cons (rs_if (rt_cmp (c_in K) (re_v 4) (re_lst (ra_cons re_str (ra_cons re_str ra_nil)))) (rss_cons (rs_set (i := 5) nd rfl (by first | exact Or.inl rfl | exact Or.inr rfl) (re_fn K c__law_any hr (by rfl) (ra_cons (re_v 0) (ra_cons (re_v 1) (ra_cons (re_sub (re_v 2) re_int) ra_nil)))))
  (rss_one (rs_ret (re_tup (ra_cons (re_v 4) (ra_cons (re_v 5) (ra_cons (re_fn K c__law_any hr (by rfl) (ra_cons (re_v 0) (ra_cons (re_v 1) (ra_cons (re_sub (re_v 2) re_int) ra_nil)))) ra_nil))))))) rss_nil)
  (rss_cons (rs_set (i := 6) nd rfl (by first | exact Or.inl rfl | exact Or.inr rfl) (re_mul (re_ix K (re_lst (ra_cons re_int (ra_cons re_int (ra_cons re_int (ra_cons re_int (ra_cons re_int (ra_cons re_int ra_nil))))))) (re_mod (re_fdiv (re_v 3) re_int) re_int)) (re_bT b_int boot_int (by rfl) m_int (re_cmp c_gt (re_v 2) re_int))))
  (rss_cons (rs_set (i := 7) nd rfl (by first | exact Or.inl rfl | exact Or.inr rfl) (re_ix K (re_lst (ra_cons re_str (ra_cons re_str (ra_cons re_str (ra_cons re_str (ra_cons re_str (ra_cons re_str (ra_cons re_str ra_nil)))))))) (re_mod (re_fdiv (re_v 3) re_int) re_int)))
  (rss_one (rs_ret (re_tup (ra_cons (re_v 4) (ra_cons (re_v 7) (ra_cons (re_bT (b_tuple K) boot_tuple (by rfl) m_tuple (re_comp (by rfl) nd (ri_range (by rfl) m_range (re_v 6)) (blkOk_by (own := [("_law_k", 8)]) (N := N__law_any) (sc := defScope s__law_any) (by decide +kernel)) (fun _ _ _ _ _ => (rg_name (i := 8) nd (by rfl) (by first | exact Or.inl rfl | exact Or.inr rfl))) (own_name (i := 8) (by decide)) (fun _ _ _ _ _ => rts_nil) (fun _ _ _ _ _ => (re_fn K c__law_any hr (by rfl) (ra_cons (re_v 0) (ra_cons (re_v 1) (ra_cons (re_sub (re_v 2) re_int) ra_nil))))))) ra_nil))))))))))))))⟩
abbrev s__law_is_word : Stmt := top 23
abbrev N__law_is_word : List Str := ["_law_thing", "_law_sign"]
theorem sc__law_is_word : FnScope N__law_is_word ["_law_thing"] (defScope s__law_is_word) := ⟨rfl, rfl, rfl, by decide +kernel, rfl, by decide +kernel, by decide +kernel⟩
theorem fn__law_is_word {a : Addr} {fd : FuncData} {sp : Spec} (F : FunD K "_law_is_word" "_law_is_word" (defArgs s__law_is_word) (defBody s__law_is_word) (defScope s__law_is_word) [] [] a fd) (hm : mg "_law_is_word" = some (.ref a)) (m_isinstance : mg "isinstance" = none) (m_str : mg "str" = none) (m_len : mg "len" = none) (does : Does 2 (t__law_is_word) 1 sp) : Fn P w K mg base (k + 1) "_law_is_word" 1 sp := by
  refine ⟨a, fd, ["_law_thing"], def_ok F sc__law_is_word rfl (fun cdv A outer s H E hr => ?_) does, hm, F.kp, F.bindsN fun _ _ _ _ _ _ us hl => match us, hl with | [_], _ => rfl⟩
  have nd := sc__law_is_word.nd
  exact ⟨_, (rss_cons (rs_if (rt_w (rw_or (rt_not (rt_val (re_isi K (by decide +kernel) boot_str (by rfl) m_isinstance (by rfl) m_str (re_v 0)))) (rw_or1 (rt_not (rt_chain c_le c_le re_int (re_b1 (b_len K) PySem.boot_len (by rfl) m_len (re_v 0)) re_int))))) (rss_one (rs_ret re_bl)) rss_nil)
  (rss_cons (rs_if (rt_cmp (c_in K) (re_v 0) (re_lst (ra_cons re_str (ra_cons re_str (ra_cons re_str (ra_cons re_str (ra_cons re_str ra_nil))))))) (rss_one (rs_ret re_bl)) rss_nil)
  (rss_one (rs_ret (re_cmp (c_eq K hr) (re_comp (by rfl) nd (ri_seq K (re_v 0)) (blkOk_by (own := [("_law_sign", 1)]) (N := N__law_is_word) (sc := defScope s__law_is_word) (by decide +kernel)) (fun _ _ _ _ _ => (rg_name (i := 1) nd (by rfl) (by first | exact Or.inl rfl | exact Or.inr rfl))) (own_name (i := 1) (by decide)) (fun _ _ _ _ _ => (rts_one (rt_cmp (c_notIn K) (re_v 1) re_str))) (fun _ _ _ _ _ => (re_v 1))) (re_lst ra_nil))))))⟩
abbrev s__law_is_new : Stmt := top 24
abbrev N__law_is_new : List Str := ["_law_thing", "_law_sign"]
theorem sc__law_is_new : FnScope N__law_is_new ["_law_thing"] (defScope s__law_is_new) := ⟨rfl, rfl, rfl, by decide +kernel, rfl, by decide +kernel, by decide +kernel⟩
theorem fn__law_is_new {a : Addr} {fd : FuncData} {sp : Spec} (F : FunD K "_law_is_new" "_law_is_new" (defArgs s__law_is_new) (defBody s__law_is_new) (defScope s__law_is_new) [] [] a fd) (hm : mg "_law_is_new" = some (.ref a)) (m_isinstance : mg "isinstance" = none) (m_str : mg "str" = none) (m_len : mg "len" = none) (does : Does 2 (t__law_is_new) 1 sp) : Fn P w K mg base (k + 1) "_law_is_new" 1 sp := by
  refine ⟨a, fd, ["_law_thing"], def_ok F sc__law_is_new rfl (fun cdv A outer s H E hr => ?_) does, hm, F.kp, F.bindsN fun _ _ _ _ _ _ us hl => match us, hl with | [_], _ => rfl⟩
  have nd := sc__law_is_new.nd
  exact ⟨_, (rss_cons (rs_if (rt_w (rw_or (rt_not (rt_val (re_isi K (by decide +kernel) boot_str (by rfl) m_isinstance (by rfl) m_str (re_v 0)))) (rw_or (rt_not (rt_chain c_le c_le re_int (re_b1 (b_len K) PySem.boot_len (by rfl) m_len (re_v 0)) re_int)) (rw_or1 (rt_cmp (c_eq K hr) (re_ix K (re_v 0) re_int) re_str))))) (rss_one (rs_ret re_bl)) rss_nil)
  (rss_one (rs_ret (re_cmp (c_eq K hr) (re_comp (by rfl) nd (ri_seq K (re_v 0)) (blkOk_by (own := [("_law_sign", 1)]) (N := N__law_is_new) (sc := defScope s__law_is_new) (by decide +kernel)) (fun _ _ _ _ _ => (rg_name (i := 1) nd (by rfl) (by first | exact Or.inl rfl | exact Or.inr rfl))) (own_name (i := 1) (by decide)) (fun _ _ _ _ _ => (rts_one (rt_cmp (c_notIn K) (re_v 1) re_str))) (fun _ _ _ _ _ => (re_v 1))) (re_lst ra_nil)))))⟩
abbrev s__law_is : Stmt := top 25
abbrev N__law_is : List Str := ["_law_thing", "_law_heads_here", "_law_part"]
theorem sc__law_is : FnScope N__law_is ["_law_thing", "_law_heads_here"] (defScope s__law_is) := ⟨rfl, rfl, rfl, by decide +kernel, rfl, by decide +kernel, by decide +kernel⟩
theorem fn__law_is {a : Addr} {fd : FuncData} {sp : Spec} (F : FunD K "_law_is" "_law_is" (defArgs s__law_is) (defBody s__law_is) (defScope s__law_is) [] [] a fd) (hm : mg "_law_is" = some (.ref a)) {sp__law_is : Spec} (c__law_is : Fn P w K mg base k "_law_is" 2 sp__law_is) {sp__law_is_word : Spec} (c__law_is_word : Fn P w K mg base k "_law_is_word" 1 sp__law_is_word) {sp__law_is_new : Spec} (c__law_is_new : Fn P w K mg base k "_law_is_new" 1 sp__law_is_new) (m_all : mg "all" = none) (m_isinstance : mg "isinstance" = none) (m_tuple : mg "tuple" = none) (m_len : mg "len" = none) (m_str : mg "str" = none) (does : Does 3 (t__law_is sp__law_is sp__law_is_word sp__law_is_new) 2 sp) : Fn P w K mg base (k + 1) "_law_is" 2 sp := by
  refine ⟨a, fd, ["_law_thing", "_law_heads_here"], def_ok F sc__law_is rfl (fun cdv A outer s H E hr => ?_) does, hm, F.kp, F.bindsN fun _ _ _ _ _ _ us hl => match us, hl with | [_, _], _ => rfl⟩
  have nd := sc__law_is.nd
  exact ⟨_, (rss_cons (rs_if (rt_w (rw_or (rt_not (rt_val (re_isi K (by decide +kernel) boot_tuple (by rfl) m_isinstance (by rfl) m_tuple (re_v 0)))) (rw_or (rt_cmp (c_eqT0 K hr) (re_v 0) (re_tup ra_nil)) (rw_or (rt_not (rt_val (re_isi K (by decide +kernel) boot_str (by rfl) m_isinstance (by rfl) m_str (re_ix K (re_v 0) re_int)))) (rw_or1 (rt_cmp (c_notIn K) (re_ix K (re_v 0) re_int) (re_v 1))))))) (rss_one (rs_ret re_bl)) rss_nil)
  (rss_cons (rs_if (rt_cmp (c_eq K hr) (re_ix K (re_v 0) re_int) re_str) (rss_one (rs_ret (re_cmp (c_eq K hr) (re_b1 (b_len K) PySem.boot_len (by rfl) m_len (re_v 0)) re_int))) rss_nil)
  (rss_cons (rs_if (rt_cmp (c_eq K hr) (re_ix K (re_v 0) re_int) re_str) (rss_one (rs_ret (re_and (re_cmp (c_eq K hr) (re_b1 (b_len K) PySem.boot_len (by rfl) m_len (re_v 0)) re_int) (re_one (re_or (re_fn K c__law_is_word hr (by rfl) (ra_cons (re_ix K (re_v 0) re_int) ra_nil)) (re_one (re_fn K c__law_is_new hr (by rfl) (ra_cons (re_ix K (re_v 0) re_int) ra_nil)))))))) rss_nil)
  (rss_cons (rs_if (rt_cmp (c_ne K hr) (re_b1 (b_len K) PySem.boot_len (by rfl) m_len (re_v 0)) re_int) (rss_one (rs_ret re_bl)) rss_nil)
  (rss_cons (rs_if (rt_cmp (c_in K) (re_ix K (re_v 0) re_int) (re_lst (ra_cons re_str (ra_cons re_str ra_nil)))) (rss_one (rs_ret (re_and (re_fn K c__law_is hr (by rfl) (ra_cons (re_ix K (re_v 0) re_int) (ra_cons (re_v 1) ra_nil))) (re_one (re_fn K c__law_is hr (by rfl) (ra_cons (re_ix K (re_v 0) re_int) (ra_cons (re_v 1) ra_nil))))))) rss_nil)
  (rss_cons (rs_if (rt_w (rw_or (rt_not (rt_val (re_fn K c__law_is_word hr (by rfl) (ra_cons (re_ix K (re_v 0) re_int) ra_nil)))) (rw_or (rt_not (rt_val (re_isi K (by decide +kernel) boot_tuple (by rfl) m_isinstance (by rfl) m_tuple (re_ix K (re_v 0) re_int)))) (rw_or1 (rt_cmp c_gt (re_b1 (b_len K) PySem.boot_len (by rfl) m_len (re_ix K (re_v 0) re_int)) re_int))))) (rss_one (rs_ret re_bl)) rss_nil)
  (rss_one (rs_ret (re_b1 (b_all K (by rfl)) boot_all (by rfl) m_all (re_comp (by rfl) nd (ri_seq K (re_ix K (re_v 0) re_int)) (blkOk_by (own := [("_law_part", 2)]) (N := N__law_is) (sc := defScope s__law_is) (by decide +kernel)) (fun _ _ _ _ _ => (rg_name (i := 2) nd (by rfl) (by first | exact Or.inl rfl | exact Or.inr rfl))) (own_name (i := 2) (by decide)) (fun _ _ _ _ _ => rts_nil) (fun _ _ _ _ _ => (re_fn K c__law_is hr (by rfl) (ra_cons (re_v 2) (ra_cons (re_v 1) ra_nil))))))))))))))⟩
abbrev s__law_odd : Stmt := top 26
abbrev N__law_odd : List Str := ["_law_number", "_law_some"]
theorem sc__law_odd : FnScope N__law_odd ["_law_number"] (defScope s__law_odd) := ⟨rfl, rfl, rfl, by decide +kernel, rfl, by decide +kernel, by decide +kernel⟩
theorem fn__law_odd {a : Addr} {fd : FuncData} {sp : Spec} (F : FunD K "_law_odd" "_law_odd" (defArgs s__law_odd) (defBody s__law_odd) (defScope s__law_odd) [] [] a fd) (hm : mg "_law_odd" = some (.ref a)) (m_len : mg "len" = none) (does : Does 2 (t__law_odd) 1 sp) : Fn P w K mg base (k + 1) "_law_odd" 1 sp := by
  refine ⟨a, fd, ["_law_number"], def_ok F sc__law_odd rfl (fun cdv A outer s H E hr => ?_) does, hm, F.kp, F.bindsN fun _ _ _ _ _ _ us hl => match us, hl with | [_], _ => rfl⟩
  have nd := sc__law_odd.nd
  exact ⟨_, (rss_cons (rs_set (i := 1) nd rfl (by first | exact Or.inl rfl | exact Or.inr rfl) (re_lst (ra_cons re_non (ra_cons re_bl (ra_cons re_bl (ra_cons re_int (ra_cons re_int (ra_cons (re_neg re_int) (ra_cons (re_pow re_int re_int) (ra_cons re_str (ra_cons re_str (ra_cons re_str (ra_cons re_str (ra_cons re_str (ra_cons (re_tup ra_nil) (ra_cons (re_lst ra_nil) (ra_cons re_dict0 (ra_cons (re_tup (ra_cons re_str ra_nil)) ra_nil))))))))))))))))))
  (rss_cons (rs_set (i := 1) nd rfl (by first | exact Or.inl rfl | exact Or.inr rfl) (re_add K (re_v 1) (re_lst (ra_cons (re_tup (ra_cons re_str (ra_cons re_str (ra_cons (re_tup ra_nil) ra_nil)))) (ra_cons (re_tup (ra_cons re_str (ra_cons re_int ra_nil))) (ra_cons re_str (ra_cons re_str (ra_cons re_str (ra_cons re_str (ra_cons re_str (ra_cons re_str (ra_cons re_str (ra_cons (re_tup (ra_cons (re_tup ra_nil) ra_nil)) ra_nil)))))))))))))
  (rss_cons (rs_set (i := 1) nd rfl (by first | exact Or.inl rfl | exact Or.inr rfl) (re_add K (re_v 1) (re_lst (ra_cons (re_tup (ra_cons re_str (ra_cons re_str ra_nil))) (ra_cons (re_tup (ra_cons re_str ra_nil)) (ra_cons (re_tup (ra_cons re_str (ra_cons re_str (ra_cons (re_lst (ra_cons re_str ra_nil)) ra_nil)))) (ra_cons (re_tup (ra_cons re_str (ra_cons re_str (ra_cons (re_tup ra_nil) ra_nil)))) (ra_cons (re_tup (ra_cons re_str (ra_cons (re_tup ra_nil) ra_nil))) ra_nil))))))))
  (rss_one (rs_ret (re_ix K (re_v 1) (re_mod (re_v 0) (re_b1 (b_len K) PySem.boot_len (by rfl) m_len (re_v 1)))))))))⟩
abbrev s__law_text_bent : Stmt := top 27
abbrev N__law_text_bent : List Str := ["_law_number", "_law_text", "_law_sign", "_law_spot", "_law_some"]
theorem sc__law_text_bent : FnScope N__law_text_bent ["_law_number", "_law_text"] (defScope s__law_text_bent) := ⟨rfl, rfl, rfl, by decide +kernel, rfl, by decide +kernel, by decide +kernel⟩
theorem fn__law_text_bent {a : Addr} {fd : FuncData} {sp : Spec} (F : FunD K "_law_text_bent" "_law_text_bent" (defArgs s__law_text_bent) (defBody s__law_text_bent) (defScope s__law_text_bent) [] [] a fd) (hm : mg "_law_text_bent" = some (.ref a)) (m_len : mg "len" = none) (does : Does 5 (t__law_text_bent) 2 sp) : Fn P w K mg base (k + 1) "_law_text_bent" 2 sp := by
  refine ⟨a, fd, ["_law_number", "_law_text"], def_ok F sc__law_text_bent rfl (fun cdv A outer s H E hr => ?_) does, hm, F.kp, F.bindsN fun _ _ _ _ _ _ us hl => match us, hl with | [_, _], _ => rfl⟩
  have nd := sc__law_text_bent.nd
  exact ⟨_, (rss_cons (rs_set (i := 2) nd rfl (by first | exact Or.inl rfl | exact Or.inr rfl) (re_ix K (re_lst (ra_cons re_str (ra_cons re_str (ra_cons re_str (ra_cons re_str (ra_cons re_str (ra_cons re_str (ra_cons re_str (ra_cons re_str ra_nil))))))))) (re_mod (re_fdiv (re_v 0) re_int) re_int)))
  (rss_cons (rs_set (i := 3) nd rfl (by first | exact Or.inl rfl | exact Or.inr rfl) (re_mod (re_fdiv (re_v 0) re_int) (re_add K (re_b1 (b_len K) PySem.boot_len (by rfl) m_len (re_v 1)) re_int)))
  (rss_cons (rs_set (i := 4) nd rfl (by first | exact Or.inl rfl | exact Or.inr rfl) (re_lst (ra_cons (re_add K (re_add K (re_cut K (re_v 1) ro_none (ro_some (re_v 3))) (re_v 2)) (re_cut K (re_v 1) (ro_some (re_v 3)) ro_none)) (ra_cons (re_add K (re_add K (re_cut K (re_v 1) ro_none (ro_some (re_v 3))) (re_v 2)) (re_cut K (re_v 1) (ro_some (re_add K (re_v 3) re_int)) ro_none)) (ra_cons (re_add K (re_cut K (re_v 1) ro_none (ro_some (re_v 3))) (re_cut K (re_v 1) (ro_some (re_add K (re_v 3) re_int)) ro_none)) ra_nil)))))
  (rss_one (rs_ret (re_ix K (re_v 4) (re_mod (re_v 0) re_int)))))))⟩
abbrev s__law_bent : Stmt := top 28
abbrev N__law_bent : List Str := ["_law_deck_here", "_law_thing", "_law_number", "_law_spot", "_law_new"]
theorem sc__law_bent : FnScope N__law_bent ["_law_deck_here", "_law_thing"] (defScope s__law_bent) := ⟨rfl, rfl, rfl, by decide +kernel, rfl, by decide +kernel, by decide +kernel⟩
theorem fn__law_bent {a : Addr} {fd : FuncData} {sp : Spec} (F : FunD K "_law_bent" "_law_bent" (defArgs s__law_bent) (defBody s__law_bent) (defScope s__law_bent) [] [] a fd) (hm : mg "_law_bent" = some (.ref a)) {sp__law_odd : Spec} (c__law_odd : Fn P w K mg base k "_law_odd" 1 sp__law_odd) {sp__law_bent : Spec} (c__law_bent : Fn P w K mg base k "_law_bent" 2 sp__law_bent) {sp__law_next : Spec} (c__law_next : Fn P w K mg base k "_law_next" 1 sp__law_next) {sp__law_text_bent : Spec} (c__law_text_bent : Fn P w K mg base k "_law_text_bent" 2 sp__law_text_bent) (m_isinstance : mg "isinstance" = none) (m_tuple : mg "tuple" = none) (m_list : mg "list" = none) (m_len : mg "len" = none) (m_str : mg "str" = none) (does : Does 5 (t__law_bent sp__law_odd sp__law_bent sp__law_next sp__law_text_bent) 2 sp) : Fn P w K mg base (k + 1) "_law_bent" 2 sp := by
  refine ⟨a, fd, ["_law_deck_here", "_law_thing"], def_ok F sc__law_bent rfl (fun cdv A outer s H E hr => ?_) does, hm, F.kp, F.bindsN fun _ _ _ _ _ _ us hl => match us, hl with | [_, _], _ => rfl⟩
  have nd := sc__law_bent.nd
  exact ⟨_, (rss_cons (rs_set (i := 2) nd rfl (by first | exact Or.inl rfl | exact Or.inr rfl) (re_fn K c__law_next hr (by rfl) (ra_cons (re_v 0) ra_nil)))
  (rss_cons (rs_if (rt_w (rw_and (rt_val (re_isi K (by decide +kernel) boot_str (by rfl) m_isinstance (by rfl) m_str (re_v 1))) (rw_and1 (rt_cmp c_gt (re_mod (re_v 2) re_int) re_int)))) (rss_one (rs_ret (re_fn K c__law_text_bent hr (by rfl) (ra_cons (re_fdiv (re_v 2) re_int) (ra_cons (re_v 1) ra_nil))))) rss_nil)
  (rss_cons (rs_if (rt_w (rw_and (rt_val (re_isi K (by decide +kernel) boot_tuple (by rfl) m_isinstance (by rfl) m_tuple (re_v 1))) (rw_and (rt_cmp (c_neT0 K hr) (re_v 1) (re_tup ra_nil)) (rw_and1 (rt_cmp c_gt (re_mod (re_v 2) re_int) re_int))))) (rss_cons (rs_set (i := 3) nd rfl (by first | exact Or.inl rfl | exact Or.inr rfl) (re_mod (re_fn K c__law_next hr (by rfl) (ra_cons (re_v 0) ra_nil)) (re_b1 (b_len K) PySem.boot_len (by rfl) m_len (re_v 1))))
  (rss_cons (rs_set (i := 4) nd rfl (by first | exact Or.inl rfl | exact Or.inr rfl) (re_tup (ra_cons (re_fn K c__law_bent hr (by rfl) (ra_cons (re_v 0) (ra_cons (re_ix K (re_v 1) (re_v 3)) ra_nil))) ra_nil)))
  (rss_cons (rs_if (rt_cmp (c_eq K hr) (re_mod (re_fdiv (re_v 2) re_int) re_int) re_int) (rss_one (rs_set (i := 4) nd rfl (by first | exact Or.inl rfl | exact Or.inr rfl) (re_ix K (re_lst (ra_cons (re_tup ra_nil) (ra_cons (re_tup (ra_cons (re_ix K (re_v 1) (re_v 3)) (ra_cons (re_ix K (re_v 1) (re_v 3)) ra_nil))) (ra_cons (re_tup (ra_cons (re_ix K (re_v 1) (re_mod (re_fdiv (re_v 2) re_int) (re_b1 (b_len K) PySem.boot_len (by rfl) m_len (re_v 1)))) ra_nil)) ra_nil)))) (re_mod (re_fdiv (re_v 2) re_int) re_int)))) rss_nil)
  (rss_one (rs_ret (re_add K (re_add K (re_cut K (re_v 1) ro_none (ro_some (re_v 3))) (re_v 4)) (re_cut K (re_v 1) (ro_some (re_add K (re_v 3) re_int)) ro_none))))))) rss_nil)
  (rss_cons (rs_if (rt_w (rw_and (rt_val (re_isi K (by decide +kernel) boot_tuple (by rfl) m_isinstance (by rfl) m_tuple (re_v 1))) (rw_and1 (rt_cmp (c_eq K hr) (re_mod (re_fdiv (re_v 2) re_int) re_int) re_int)))) (rss_one (rs_ret (re_ix K (re_lst (ra_cons (re_bT (b_list K) boot_list (by rfl) m_list (re_v 1)) (ra_cons (re_rev K (re_v 1)) (ra_cons (re_add K (re_v 1) (re_v 1)) ra_nil)))) (re_mod (re_fdiv (re_v 2) re_int) re_int)))) rss_nil)
  (rss_one (rs_ret (re_fn K c__law_odd hr (by rfl) (ra_cons (re_fdiv (re_v 2) re_int) ra_nil))))))))⟩
abbrev s__law_heads : Stmt := top 29
abbrev N__law_heads : List Str := ["_law_number", "_law_some"]
theorem sc__law_heads : FnScope N__law_heads ["_law_number"] (defScope s__law_heads) := ⟨rfl, rfl, rfl, by decide +kernel, rfl, by decide +kernel, by decide +kernel⟩
theorem fn__law_heads {a : Addr} {fd : FuncData} {sp : Spec} (F : FunD K "_law_heads" "_law_heads" (defArgs s__law_heads) (defBody s__law_heads) (defScope s__law_heads) [] [] a fd) (hm : mg "_law_heads" = some (.ref a)) (does : Does 2 (t__law_heads) 1 sp) : Fn P w K mg base (k + 1) "_law_heads" 1 sp := by
  refine ⟨a, fd, ["_law_number"], def_ok F sc__law_heads rfl (fun cdv A outer s H E hr => ?_) does, hm, F.kp, F.bindsN fun _ _ _ _ _ _ us hl => match us, hl with | [_], _ => rfl⟩
  have nd := sc__law_heads.nd
  exact ⟨_, (rss_cons (rs_set (i := 1) nd rfl (by first | exact Or.inl rfl | exact Or.inr rfl) (re_lst (ra_cons (re_lst (ra_cons re_str (ra_cons re_str (ra_cons re_str (ra_cons re_str (ra_cons re_str (ra_cons re_str ra_nil))))))) (ra_cons (re_lst (ra_cons re_str (ra_cons re_str ra_nil))) (ra_cons (re_lst (ra_cons re_str ra_nil)) (ra_cons (re_lst (ra_cons re_str (ra_cons re_str (ra_cons re_str ra_nil)))) ra_nil))))))
  (rss_one (rs_ret (re_ix K (re_v 1) (re_mod (re_v 0) re_int)))))⟩
abbrev s__law_says : Stmt := top 30
abbrev N__law_says : List Str := ["_law_found", "_law_due"]
theorem sc__law_says : FnScope N__law_says ["_law_found", "_law_due"] (defScope s__law_says) := ⟨rfl, rfl, rfl, by decide +kernel, rfl, by decide +kernel, by decide +kernel⟩
theorem fn__law_says {a : Addr} {fd : FuncData} {sp : Spec} (F : FunD K "_law_says" "_law_says" (defArgs s__law_says) (defBody s__law_says) (defScope s__law_says) [] [] a fd) (hm : mg "_law_says" = some (.ref a)) (m_isinstance : mg "isinstance" = none) (m_bool : mg "bool" = none) (does : Does 2 (t__law_says) 2 sp) : Fn P w K mg base (k + 1) "_law_says" 2 sp := by
  refine ⟨a, fd, ["_law_found", "_law_due"], def_ok F sc__law_says rfl (fun cdv A outer s H E hr => ?_) does, hm, F.kp, F.bindsN fun _ _ _ _ _ _ us hl => match us, hl with | [_, _], _ => rfl⟩
  have nd := sc__law_says.nd
  exact ⟨_, (rss_one (rs_ret (re_and (re_isi K (by decide +kernel) boot_bool (by rfl) m_isinstance (by rfl) m_bool (re_v 0)) (re_one (re_cmp (c_eq K hr) (re_v 0) (re_v 1))))))⟩
abbrev s__law_right : Stmt := top 31
abbrev N__law_right : List Str := ["_law_thing", "_law_every"]
theorem sc__law_right : FnScope N__law_right ["_law_thing"] (defScope s__law_right) := ⟨rfl, rfl, rfl, by decide +kernel, rfl, by decide +kernel, by decide +kernel⟩
theorem fn__law_right {a : Addr} {fd : FuncData} {sp : Spec} (F : FunD K "_law_right" "_law_right" (defArgs s__law_right) (defBody s__law_right) (defScope s__law_right) [] [] a fd) (hm : mg "_law_right" = some (.ref a)) {sp__law_says : Spec} (c__law_says : Fn P w K mg base k "_law_says" 2 sp__law_says) {sp_is_plain : Spec} (c_is_plain : Fn P w K mg base k "is_plain" 1 sp_is_plain) {sp__law_is : Spec} (c__law_is : Fn P w K mg base k "_law_is" 2 sp__law_is) {sp_is_word : Spec} (c_is_word : Fn P w K mg base k "is_word" 1 sp_is_word) {sp__law_is_word : Spec} (c__law_is_word : Fn P w K mg base k "_law_is_word" 1 sp__law_is_word) {sp_is_thing : Spec} (c_is_thing : Fn P w K mg base k "is_thing" 1 sp_is_thing) {sp_is_saying : Spec} (c_is_saying : Fn P w K mg base k "is_saying" 1 sp_is_saying) (does : Does 2 (t__law_right sp__law_says sp_is_plain sp__law_is sp_is_word sp__law_is_word sp_is_thing sp_is_saying) 1 sp) : Fn P w K mg base (k + 1) "_law_right" 1 sp := by
  refine ⟨a, fd, ["_law_thing"], def_ok F sc__law_right rfl (fun cdv A outer s H E hr => ?_) does, hm, F.kp, F.bindsN fun _ _ _ _ _ _ us hl => match us, hl with | [_], _ => rfl⟩
  have nd := sc__law_right.nd
  exact ⟨_, (rss_cons (rs_set (i := 1) nd rfl (by first | exact Or.inl rfl | exact Or.inr rfl) (re_lst (ra_cons re_str (ra_cons re_str (ra_cons re_str (ra_cons re_str (ra_cons re_str (ra_cons re_str ra_nil))))))))
  (rss_cons (rs_if (rt_not (rt_val (re_fn K c__law_says hr (by rfl) (ra_cons (re_fn K c_is_saying hr (by rfl) (ra_cons (re_v 0) ra_nil)) (ra_cons (re_fn K c__law_is hr (by rfl) (ra_cons (re_v 0) (ra_cons (re_v 1) ra_nil))) ra_nil))))) (rss_one (rs_ret re_bl)) rss_nil)
  (rss_cons (rs_if (rt_not (rt_val (re_fn K c__law_says hr (by rfl) (ra_cons (re_fn K c_is_thing hr (by rfl) (ra_cons (re_v 0) ra_nil)) (ra_cons (re_fn K c__law_is hr (by rfl) (ra_cons (re_v 0) (ra_cons (re_lst (ra_cons re_str (ra_cons re_str ra_nil))) ra_nil))) ra_nil))))) (rss_one (rs_ret re_bl)) rss_nil)
  (rss_one (rs_ret (re_and (re_fn K c__law_says hr (by rfl) (ra_cons (re_fn K c_is_plain hr (by rfl) (ra_cons (re_v 0) ra_nil)) (ra_cons (re_fn K c__law_is hr (by rfl) (ra_cons (re_v 0) (ra_cons (re_lst (ra_cons re_str ra_nil)) ra_nil))) ra_nil))) (re_one (re_fn K c__law_says hr (by rfl) (ra_cons (re_fn K c_is_word hr (by rfl) (ra_cons (re_v 0) ra_nil)) (ra_cons (re_fn K c__law_is_word hr (by rfl) (ra_cons (re_v 0) ra_nil)) ra_nil))))))))))⟩
abbrev s_law : Stmt := top 32
abbrev N_law : List Str := ["_law_script", "_law_deck_here", "_law_some", "_law_turn", "_law_number", "_law_thing", "_law_twice"]
theorem sc_law : FnScope N_law ["_law_script"] (defScope s_law) := ⟨rfl, rfl, rfl, by decide +kernel, rfl, by decide +kernel, by decide +kernel⟩
theorem fn_law {a : Addr} {fd : FuncData} {sp : Spec} (F : FunD K "law" "law" (defArgs s_law) (defBody s_law) (defScope s_law) [] [] a fd) (hm : mg "law" = some (.ref a)) {sp__law_right : Spec} (c__law_right : Fn P w K mg base k "_law_right" 1 sp__law_right) {sp__law_bent : Spec} (c__law_bent : Fn P w K mg base k "_law_bent" 2 sp__law_bent) {sp__law_letters : Spec} (c__law_letters : Fn P w K mg base k "_law_letters" 2 sp__law_letters) {sp__law_name : Spec} (c__law_name : Fn P w K mg base k "_law_name" 1 sp__law_name) {sp__law_any : Spec} (c__law_any : Fn P w K mg base k "_law_any" 3 sp__law_any) {sp__law_heads : Spec} (c__law_heads : Fn P w K mg base k "_law_heads" 1 sp__law_heads) {sp__law_next : Spec} (c__law_next : Fn P w K mg base k "_law_next" 1 sp__law_next) {sp__law_deck : Spec} (c__law_deck : Fn P w K mg base k "_law_deck" 1 sp__law_deck) (m_all : mg "all" = none) (m_range : mg "range" = none) (does : Does 7 (t_law sp__law_right sp__law_bent sp__law_letters sp__law_name sp__law_any sp__law_heads sp__law_next sp__law_deck) 1 sp) : FnOk P w K mg base CX0 (k + 1) a fd ["_law_script"] (toSp K 1 sp) := by
  refine def_ok F sc_law rfl (fun cdv A outer s H E hr => ?_) does
  have nd := sc_law.nd
  exact ⟨_, (rss_cons (rs_set (i := 1) nd rfl (by first | exact Or.inl rfl | exact Or.inr rfl) (re_fn K c__law_deck hr (by rfl) (ra_cons (re_v 0) ra_nil)))
  (rss_cons (rs_set (i := 2) nd rfl (by first | exact Or.inl rfl | exact Or.inr rfl) (re_lst ra_nil))
  (rss_cons (rs_for PassesOwn.never rfl (ri_range (by rfl) m_range re_int) (rg_name (i := 3) nd (by rfl) (by first | exact Or.inl rfl | exact Or.inr rfl)) (rss_cons (rs_set (i := 4) nd rfl (by first | exact Or.inl rfl | exact Or.inr rfl) (re_fn K c__law_next hr (by rfl) (ra_cons (re_v 1) ra_nil)))
  (rss_cons (rs_set (i := 5) nd rfl (by first | exact Or.inl rfl | exact Or.inr rfl) (re_fn K c__law_any hr (by rfl) (ra_cons (re_v 1) (ra_cons (re_fn K c__law_heads hr (by rfl) (ra_cons (re_v 4) ra_nil)) (ra_cons (re_add K re_int (re_mod (re_fdiv (re_v 4) re_int) re_int)) ra_nil)))))
  (rss_cons (rs_set (i := 6) nd rfl (by first | exact Or.inl rfl | exact Or.inr rfl) (re_fn K c__law_bent hr (by rfl) (ra_cons (re_v 1) (ra_cons (re_v 5) ra_nil))))
  (rss_one (rs_set (i := 2) nd rfl (by first | exact Or.inl rfl | exact Or.inr rfl) (re_add K (re_v 2) (re_lst (ra_cons (re_v 5) (ra_cons (re_v 6) (ra_cons (re_fn K c__law_bent hr (by rfl) (ra_cons (re_v 1) (ra_cons (re_v 6) ra_nil))) (ra_cons (re_fn K c__law_name hr (by rfl) (ra_cons (re_v 1) ra_nil)) (ra_cons (re_fn K c__law_bent hr (by rfl) (ra_cons (re_v 1) (ra_cons (re_fn K c__law_letters hr (by rfl) (ra_cons (re_v 1) (ra_cons re_int ra_nil))) ra_nil))) ra_nil)))))))))))))
  (rss_cons (rs_set (i := 2) nd rfl (by first | exact Or.inl rfl | exact Or.inr rfl) (re_add K (re_v 2) (re_lst (ra_cons re_str (ra_cons re_str (ra_cons re_str (ra_cons re_str (ra_cons re_str (ra_cons re_str (ra_cons re_str (ra_cons re_str (ra_cons re_str (ra_cons re_str (ra_cons re_str (ra_cons re_str ra_nil)))))))))))))))
  (rss_one (rs_ret (re_b1 (b_all K (by rfl)) boot_all (by rfl) m_all (re_comp (by rfl) nd (ri_seq K (re_add K (re_v 2) (re_cut K (re_v 2) ro_none (ro_some re_int)))) (blkOk_by (own := [("_law_thing", 5)]) (N := N_law) (sc := defScope s_law) (by decide +kernel)) (fun _ _ _ _ _ => (rg_name (i := 5) nd (by rfl) (by first | exact Or.inl rfl | exact Or.inr rfl))) (own_name (i := 5) (by decide)) (fun _ _ _ _ _ => rts_nil) (fun _ _ _ _ _ => (re_fn K c__law_right hr (by rfl) (ra_cons (re_v 5) ra_nil)))))))))))⟩
end
section
variable {K : Fg} {H : Hp} {M : Mem}
theorem reps_ints : ∀ ns : List Int, Reps K H M (intsD ns) (ns.map V.int)
  | [] => rfl
  | n :: r => ⟨.int n, r.map V.int, rfl, rfl, reps_ints r⟩
theorem ints_reps : ∀ (ns : List Int) {vs : List V}, Reps K H M (intsD ns) vs → vs = ns.map V.int
  | [], _, h => h
  | n :: r, _, ⟨v, t, e, h, q⟩ => by
    rw [e, ints_reps r q, show v = .int n from h]
    rfl
end
/-! ### decks of kind nought: told as such -/
section
variable {K : Fg} {H : Hp} {M M' : Mem} {dk dg cl : Addr} {n : Int} {ds cs : List Int}
/-- M' tells the deck's three lists as a deck -/
structure Told (M M' : Mem) (dk dg cl : Addr) (b : Nat) : Prop where
  t0 : M' dk = some (.deck 0 b)
  t1 : M' dg = some (.part dk)
  t2 : M' cl = some (.part dk)
  ot : ∀ a, a ≠ dk → a ≠ dg → a ≠ cl → M' a = M a
theorem Told.dom {b : Nat} (t : Told M M' dk dg cl b) (A : DeckAt M dk dg cl n ds cs) {a : Addr} : M a = none ↔ M' a = none := by
  by_cases h0 : a = dk
  · subst h0; rw [A.at0, t.t0]; exact ⟨(fun h => nomatch h), (fun h => nomatch h)⟩
  by_cases h1 : a = dg
  · subst h1; rw [A.at1, t.t1]; exact ⟨(fun h => nomatch h), (fun h => nomatch h)⟩
  by_cases h2 : a = cl
  · subst h2; rw [A.at2, t.t2]; exact ⟨(fun h => nomatch h), (fun h => nomatch h)⟩
  · rw [t.ot a h0 h1 h2]
theorem deck_close {b : Nat} (m : MRep K H M) (A : DeckAt M dk dg cl n ds cs) (t : Told M M' dk dg cl b) (hn : n + b ≤ 2 ^ 40) : MRep K H M' := by
  have f : Fr H M H M' := fun a o h e => ⟨h, (t.dom A).mp e⟩
  refine ⟨fun a o e => ?_, m.prv_step f⟩
  obtain ⟨vd, hd, rd⟩ := m.obj dk _ A.at0
  obtain ⟨vg, hg, rg⟩ := m.obj dg _ A.at1
  obtain ⟨vc, hc, rc⟩ := m.obj cl _ A.at2
  by_cases h0 : a = dk
  · subst h0
    rw [t.t0] at e
    cases e
    obtain ⟨v1, r1, rfl, e1, v2, r2, rfl, e2, v3, r3, rfl, e3, e4⟩ := rd
    cases e1; cases e2; cases e3; cases e4
    rw [ints_reps ds rg] at hg
    rw [ints_reps cs rc] at hc
    refine ⟨[dg, cl], [], fun p hp => ?_, (fun f hf => by simp at hf), dg, cl, n, ds, cs, rfl, A.ne1, hd, by simp [hg, hc], A.s1, A.s2, A.nn, A.n0, hn⟩
    simp only [List.mem_cons, List.not_mem_nil, or_false] at hp
    rcases hp with rfl | rfl
    · exact ⟨t.t1, A.ne2⟩
    · exact ⟨t.t2, A.ne3⟩
  by_cases h1 : a = dg
  · subst h1
    rw [t.t1] at e
    cases e
    exact ⟨_, hg⟩
  by_cases h2 : a = cl
  · subst h2
    rw [t.t2] at e
    cases e
    exact ⟨_, hc⟩
  rw [t.ot a h0 h1 h2] at e
  have q := m.obj a o e
  cases o with
  | lst ds => obtain ⟨vs, e, r⟩ := q; exact ⟨vs, e, r.mono f⟩
  | dK ks ds => obtain ⟨vs, e, z, r⟩ := q; exact ⟨vs, e, z, r.mono f⟩
  | dT ks ds => obtain ⟨vs, e, z, r⟩ := q; exact ⟨vs, e, z, r.mono f⟩
  | ins C ns ds => obtain ⟨dx, vs, e, z, r⟩ := q; exact ⟨dx, vs, e, z, r.mono f⟩
  | deck k b =>
    refine DeckRep.keep (M' := M') q (fun x u _ e => e) (fun x _ e => e) (fun x w => ?_) (fun x o e m p => ⟨e, (f x o e m).2, p⟩)
    have x0 : x ≠ dk := fun z => by rw [z, A.at0] at w; cases w
    have x1 : x ≠ dg := fun z => by rw [z, A.at1] at w; cases w
    have x2 : x ≠ cl := fun z => by rw [z, A.at2] at w; cases w
    rw [t.ot x x0 x1 x2]
    exact w
  | part c => exact q
theorem deck_open {b : Nat} (m : MRep K H M) (h : M dk = some (.deck 0 b)) : ∃ (dg cl : Addr) (n : Int) (ds cs : List Int) (Mo : Mem), DeckAt Mo dk dg cl n ds cs ∧ Told Mo M dk dg cl b ∧ n + b ≤ 2 ^ 40 ∧ MRep K H Mo ∧ Mo = mset (mset (mset M dk (.lst [.ref dg, .ref cl, .int n])) dg (.lst (intsD ds))) cl (.lst (intsD cs)) := by
  obtain ⟨ps, fs, hp, hf, dg, cl, n, ds, cs, rfl, ne1, ho, hos, s1, s2, nn, n0, hn⟩ := m.obj dk _ h
  obtain ⟨p1, ne2⟩ := hp dg (by simp)
  obtain ⟨p2, ne3⟩ := hp cl (by simp)
  simp only [List.map_cons, List.map_nil, List.cons.injEq, and_true] at hos
  have A : DeckAt (mset (mset (mset M dk (.lst [.ref dg, .ref cl, .int n])) dg (.lst (intsD ds))) cl (.lst (intsD cs))) dk dg cl n ds cs :=
    ⟨ne1, ne2, ne3, by rw [mset_ne (Ne.symm ne3), mset_ne (Ne.symm ne2), mset_same], by rw [mset_ne ne1, mset_same], mset_same _ _ _, s1, s2, nn, n0⟩
  have T : Told (mset (mset (mset M dk (.lst [.ref dg, .ref cl, .int n])) dg (.lst (intsD ds))) cl (.lst (intsD cs))) M dk dg cl b :=
    ⟨h, p1, p2, fun a h0 h1 h2 => by rw [mset_ne h2, mset_ne h1, mset_ne h0]⟩
  refine ⟨dg, cl, n, ds, cs, _, A, T, hn, ?_, rfl⟩
  generalize mset (mset (mset M dk (.lst [.ref dg, .ref cl, .int n])) dg (.lst (intsD ds))) cl (.lst (intsD cs)) = Mo at A T
  have f : Fr H M H Mo := fun a o h e => ⟨h, (T.dom A).mpr e⟩
  refine ⟨fun a o e => ?_, m.prv_step f⟩
  by_cases h0 : a = dk
  · subst h0
    rw [A.at0] at e
    cases e
    exact ⟨_, ho, _, _, rfl, rfl, _, _, rfl, rfl, _, _, rfl, rfl, rfl⟩
  by_cases h1 : a = dg
  · subst h1
    rw [A.at1] at e
    cases e
    exact ⟨_, hos.1, reps_ints ds⟩
  by_cases h2 : a = cl
  · subst h2
    rw [A.at2] at e
    cases e
    exact ⟨_, hos.2, reps_ints cs⟩
  rw [← T.ot a h0 h1 h2] at e
  have q := m.obj a o e
  cases o with
  | lst ds => obtain ⟨vs, e, r⟩ := q; exact ⟨vs, e, r.mono f⟩
  | dK ks ds => obtain ⟨vs, e, z, r⟩ := q; exact ⟨vs, e, z, r.mono f⟩
  | dT ks ds => obtain ⟨vs, e, z, r⟩ := q; exact ⟨vs, e, z, r.mono f⟩
  | ins C ns ds => obtain ⟨dx, vs, e, z, r⟩ := q; exact ⟨dx, vs, e, z, r.mono f⟩
  | deck k b =>
    refine DeckRep.keep (M' := Mo) q (fun x u _ e => e) (fun x _ e => e) (fun x w => ?_) (fun x o e m p => ⟨e, (f x o e m).2, p⟩)
    have x0 : x ≠ dk := fun z => by rw [z, T.t0] at w; cases w
    have x1 : x ≠ dg := fun z => by rw [z, T.t1] at w; cases w; exact h0 rfl
    have x2 : x ≠ cl := fun z => by rw [z, T.t2] at w; cases w; exact h0 rfl
    rw [← T.ot x x0 x1 x2]
    exact w
  | part c => exact q
end
section
variable {P : Program} {w : World} {K : PySem.W.Frag} {mg : Str → Option Value} {base : Heap} {k : Nat}
theorem fn_next_told {x : Str} (c : Fn P w K mg base k x 1 sp_nextC) : Fn P w K mg base k x 1 (sp_next 0 2147483629) := by
  obtain ⟨f, fd, ps, h, h2⟩ := c
  refine ⟨f, fd, ps, h.imp ?_, h2⟩
  rintro vs H Q E ⟨P', as, M, r, e, m, ⟨dk, b, rfl, hM, hb⟩, hpost⟩
  obtain ⟨dg, cl, n, ds, cs, Mo, A, T, hn, mo, eo⟩ := deck_open m hM
  refine ⟨P', [.ref dk], Mo, r, e, mo, ⟨dk, dg, cl, n, ds, cs, rfl, A, by omega⟩, ?_⟩
  intro d M' p v H' fr rd md
  obtain ⟨y, n', ds', rfl, y0, y1, rfl, n0, n1, sd⟩ := p dk dg cl n ds cs rfl A
  have A' : DeckAt (mset (mset Mo dk (.lst [.ref dg, .ref cl, .int n'])) dg (.lst (intsD ds'))) dk dg cl n' ds' cs :=
    ⟨A.ne1, A.ne2, A.ne3, by rw [mset_ne (Ne.symm A.ne2), mset_same], mset_same _ _ _, by rw [mset_ne (Ne.symm A.ne1), mset_ne A.ne3]; exact A.at2, sd, A.s2, A.nn, n0⟩
  have T' : Told (mset (mset Mo dk (.lst [.ref dg, .ref cl, .int n'])) dg (.lst (intsD ds'))) (mset M dk (.deck 0 (b - 1))) dk dg cl (b - 1) :=
    ⟨mset_same _ _ _, by rw [mset_ne A.ne2]; exact T.t1, by rw [mset_ne A.ne3]; exact T.t2, fun a h0 h1 h2 => by rw [mset_ne h0, mset_ne h1, mset_ne h0]; exact T.ot a h0 h1 h2⟩
  refine hpost (.int y) (mset M dk (.deck 0 (b - 1))) ?_ v H' ?_ rd (deck_close md A' T' (by omega))
  · intro dk2 b2 e2 hM2
    simp only [List.cons.injEq, D.ref.injEq, and_true] at e2
    subst e2
    rw [hM] at hM2
    cases hM2
    exact ⟨y, rfl, y0, y1, b - 1, rfl, by omega⟩
  · intro a o ha hm
    have := fr a o ha ((T.dom A).mpr hm)
    exact ⟨this.1, (T'.dom A').mp this.2⟩
theorem fn_deck_told {x : Str} (c : Fn P w K mg base k x 1 sp_deckC) : Fn P w K mg base k x 1 (sp_deck 0 1000000) := by
  obtain ⟨f, fd, ps, h, h2⟩ := c
  refine ⟨f, fd, ps, h.imp ?_, h2⟩
  rintro vs H Q E ⟨P', as, M, r, e, m, hp, hpost⟩
  refine ⟨P', as, M, r, e, m, hp, ?_⟩
  obtain ⟨ns, rfl, hns, rfl⟩ := hp
  rintro d M' ⟨dk, dg, cl, ds, cs, rfl, A, hno⟩ v H' fr rd md
  have T : Told M' (mset (mset (mset M' dg (.part dk)) cl (.part dk)) dk (.deck 0 1000000)) dk dg cl 1000000 :=
    ⟨mset_same _ _ _, by rw [mset_ne A.ne2, mset_ne A.ne1, mset_same], by rw [mset_ne A.ne3, mset_same], fun a h0 h1 h2 => by rw [mset_ne h0, mset_ne h2, mset_ne h1]⟩
  refine hpost (.ref dk) _ ⟨dk, rfl, T.t0⟩ v H' (fun a o ha hm => ?_) rd (deck_close md A T (by decide))
  have := fr a o ha rfl
  exact ⟨this.1, (T.dom A).mp this.2⟩
/-- nothing is promised -/
theorem Fn.none {n : Nat} {sp sp' : Spec} {x : Str} (c : Fn P w K mg base k x n sp) (h : ∀ ds M, ¬ sp'.pre ds M) : Fn P w K mg base k x n sp' := by
  obtain ⟨f, fd, ps, h1, h2⟩ := c
  exact ⟨f, fd, ps, spec_imp h1 fun ds M q => (h ds M q).elim, h2⟩
end
/-! ### the chain's ends -/
theorem fn_zero {P : Program} {w : World} {K : PySem.W.Frag} {mg : Str → Option Value} {base : Heap} {k n : Nat} {x qual : Str} {params : Arguments} {body : List Stmt} {scope : Scope} {a : Addr} {fd : FuncData} {ps : List Str} {sp : Spec}
    (F : FunD K x qual params body scope [] [] a fd) (hm : mg x = some (.ref a)) (hb : Binds K fd ps []) (h : ∀ ds M, ¬ sp.pre ds M) : Fn P w K mg base k x n sp :=
  ⟨a, fd, ps, ⟨fun vs H Q E q => by obtain ⟨_, ds, M, _, _, _, q, _⟩ := q; exact (h ds M q).elim, fun A outer s H args us vs Q E _ _ _ _ q => by obtain ⟨_, ds, M, _, _, _, q, _⟩ := q; exact (h ds M q).elim⟩, hm, F.kp, hb⟩
theorem reps_map_ints {K : Fg} {H : Hp} {M : Mem} : ∀ ns : List Int, Reps K H M (ns.map D.int) (ns.map V.int)
  | [] => rfl
  | n :: r => ⟨.int n, r.map V.int, rfl, rfl, reps_map_ints r⟩
theorem law_start {K : PySem.W.Frag} {H : Hp} {a : Addr} {ns : List Int} (hl : ns.length ≤ 63) (hS : SqL K H a (ns.map V.int)) : toSp K 1 sp_law [.ref a] H (fun v _ => v = .bl true) fun _ _ _ => False := by
  refine ⟨fun _ => False, [.rol (ns.map D.int)], fun _ => none, ⟨.ref a, [], rfl, ⟨a, ns.map V.int, rfl, ?_, reps_map_ints ns⟩, rfl⟩, rfl, ⟨fun _ _ e => (by cases e), fun _ q => False.elim q⟩, ⟨ns, rfl, hl, rfl⟩, ?_⟩
  · rcases hS with h | h
    · exact .inl ⟨h, rfl, fun z => False.elim z⟩
    · exact .inr h
  · intro d M' e v H' _ r _
    rw [show d = .bl true from e] at r
    exact r
/-! ### constants of the module -/
mutual
def valB (K : PySem.W.Frag) : D → Value → Bool
  | .non, u => (match u with
    | .none => true
    | _ => false)
  | .bl b, u => (match u with
    | .bool c => b == c
    | _ => false)
  | .int i, u => (match u with
    | .int j _ => decide (i = j)
    | _ => false)
  | .str x, u => (match u with
    | .str y _ => decide (x = y)
    | _ => false)
  | .tup ds, u => (match u with
    | .ref a => (match K.lookup a with
      | some ⟨.type c, _, .seq its _, _⟩ => decide (c = "tuple") && (decide (its.size ≤ sizeLine) && valsB K ds its.toList)
      | _ => false)
    | _ => false)
  | _, _ => false
termination_by structural d => d
def valsB (K : PySem.W.Frag) : List D → List Value → Bool
  | [], us => us.isEmpty
  | d :: ds, us => (match us with
    | u :: r => valB K d u && valsB K ds r
    | [] => false)
termination_by structural ds => ds
end
mutual
theorem valB_ok {K : PySem.W.Frag} : ∀ (d : D) (u : Value), valB K d u = true → ∃ v, RelV v u ∧ ∀ P H M, Rep ⟨K, P⟩ H M d v
  | .non, u, h => by
    cases u <;> simp [valB] at h
    exact ⟨.non, rfl, fun _ _ _ => rfl⟩
  | .bl b, u, h => by
    cases u <;> simp [valB] at h
    rw [h]
    exact ⟨.bl _, rfl, fun _ _ _ => rfl⟩
  | .int i, u, h => by
    cases u <;> simp [valB] at h
    rw [h]
    exact ⟨.int _, ⟨_, rfl⟩, fun _ _ _ => rfl⟩
  | .str x, u, h => by
    cases u <;> simp [valB] at h
    rw [h]
    exact ⟨.str _, ⟨_, rfl⟩, fun _ _ _ => rfl⟩
  | .tup ds, u, h => by
    cases u with
    | ref a =>
      simp only [valB] at h
      cases q : K.lookup a with
      | none => rw [q] at h; cases h
      | some o =>
        obtain ⟨oc, od, dt, osl⟩ := o
        rw [q] at h
        cases oc with
        | type c =>
          cases dt with
          | seq its n =>
            simp only [Bool.and_eq_true, decide_eq_true_eq] at h
            obtain ⟨h1, h2, h3⟩ := h
            obtain ⟨vs, z1, z2⟩ := valsB_ok ds its.toList h3
            refine ⟨.ref a, rfl, fun P H M => ⟨a, vs, rfl, .inr ⟨_, its, n, q, congrArg Value.type h1, rfl, h2, z1⟩, z2 P H M⟩⟩
          | _ => cases h
        | _ => cases dt <;> cases h
    | _ => simp [valB] at h
  | .ref a, u, h => by simp [valB] at h
  | .lst a, u, h => by simp [valB] at h
  | .rol a, u, h => by simp [valB] at h
  | .dK a b, u, h => by simp [valB] at h
  | .dT a b, u, h => by simp [valB] at h
  | .ins a b c, u, h => by simp [valB] at h
  | .ty a, u, h => by simp [valB] at h
  | .cls a, u, h => by simp [valB] at h
theorem valsB_ok {K : PySem.W.Frag} : ∀ (ds : List D) (us : List Value), valsB K ds us = true → ∃ vs, Vals vs us ∧ ∀ P H M, Reps ⟨K, P⟩ H M ds vs
  | [], us, h => by
    cases us with
    | nil => exact ⟨[], .nil, fun _ _ _ => rfl⟩
    | cons u r => simp [valsB] at h
  | d :: ds, us, h => by
    cases us with
    | nil => simp [valsB] at h
    | cons u r =>
      simp only [valsB, Bool.and_eq_true] at h
      obtain ⟨v, h1, h2⟩ := valB_ok d u h.1
      obtain ⟨vs, h3, h4⟩ := valsB_ok ds r h.2
      exact ⟨v :: vs, .cons h1 h3, fun P H M => ⟨v, vs, rfl, h2 P H M, h4 P H M⟩⟩
end
def globB (K : PySem.W.Frag) (x : Str) (d : D) : Bool := match PySem.W.nsIn K mainGlobals x with
  | some (some u) => valB K d u
  | _ => false
theorem globB_ok {K : PySem.W.Frag} {h : Heap} {mg : Str → Option Value} (X : K.In h) (G : h.Ns mainGlobals mg) {x : Str} {d : D} (c : globB K x d = true) : ∃ v, Glob K mg x v d := by
  unfold globB at c
  cases e : PySem.W.nsIn K mainGlobals x with
  | none => rw [e] at c; cases c
  | some o =>
    rw [e] at c
    cases o with
    | none => cases c
    | some u =>
      obtain ⟨v, h1, h2⟩ := valB_ok d u c
      exact ⟨v, u, PySem.W.mg_of X G e, h1, h2⟩
/-! the Hook, by one more Bool -/
abbrev AlE : Type := He.AlD × Bool
def obsE (n : Nat) (fa : List He.Fa) (fn : List He.DefD) (gs : List (Str × D)) (g : Addr → Option Obj) : AlE := (He.obsDG n fa fn g, gs.all fun q => globB (He.frG g (He.asD g n)) q.1 q.2)
structure SaysE (fa : List He.Fa) (fn : List He.DefD) (gs : List (Str × D)) (K : PySem.W.Frag) : Prop where
  d : He.SaysD fa fn K
  g : ∀ q ∈ gs, globB K q.1 q.2 = true
def hookE (n : Nat) (fa : List He.Fa) (fn : List He.DefD) (gs : List (Str × D)) : PySem.W.Hook where
  α := AlE
  obs := fun s => obsE n fa fn gs s.heap.get?
  val := fun _ => (He.valD fn, true)
  says := fun _ h => ∃ K : PySem.W.Frag, K.In h ∧ SaysE fa fn gs K
  of := fun _ h e => ⟨_, He.frG_in, ⟨congrArg (fun z : AlE => z.1) e, List.all_eq_true.mp (congrArg (fun z : AlE => z.2) e)⟩⟩
  keeps := fun _ _ _ ⟨K, hK, c⟩ k => ⟨K, PySem.W.Frag.In.keeps hK k, c⟩
theorem obsE_eq {n : Nat} {fa : List He.Fa} {fn : List He.DefD} {gs : List (Str × D)} {g : Addr → Option Obj} {s : Shared} (h : ∀ a, g a = s.heap.get? a) : obsE n fa fn gs g = (hookE n fa fn gs).obs s := by
  have e : g = s.heap.get? := funext h
  rw [e] <;> rfl
abbrev sc_is_saying_ps : List Str := ["thing"]
abbrev sc_is_thing_ps : List Str := ["thing"]
abbrev sc_is_plain_ps : List Str := ["thing"]
abbrev sc__law_any_ps : List Str := ["_law_deck_here", "_law_heads_here", "_law_left"]
abbrev sc__law_is_ps : List Str := ["_law_thing", "_law_heads_here"]
abbrev sc__law_bent_ps : List Str := ["_law_deck_here", "_law_thing"]
theorem chain {P : Program} {w : World} {K : PySem.W.Frag} {mg : Str → Option Value} {base : Heap} {a_is_made_of : Addr} {fd_is_made_of : FuncData} (F_is_made_of : FunD K "is_made_of" "is_made_of" (defArgs s_is_made_of) (defBody s_is_made_of) (defScope s_is_made_of) [] [] a_is_made_of fd_is_made_of) (g_is_made_of : mg "is_made_of" = some (.ref a_is_made_of)) {a_is_word : Addr} {fd_is_word : FuncData} (F_is_word : FunD K "is_word" "is_word" (defArgs s_is_word) (defBody s_is_word) (defScope s_is_word) [] [] a_is_word fd_is_word) (g_is_word : mg "is_word" = some (.ref a_is_word)) {a_is_new_name : Addr} {fd_is_new_name : FuncData} (F_is_new_name : FunD K "is_new_name" "is_new_name" (defArgs s_is_new_name) (defBody s_is_new_name) (defScope s_is_new_name) [] [] a_is_new_name fd_is_new_name) (g_is_new_name : mg "is_new_name" = some (.ref a_is_new_name)) {a_is_row : Addr} {fd_is_row : FuncData} (F_is_row : FunD K "is_row" "is_row" (defArgs s_is_row) (defBody s_is_row) (defScope s_is_row) [.int 0] [] a_is_row fd_is_row) (g_is_row : mg "is_row" = some (.ref a_is_row)) {a_is_headed : Addr} {fd_is_headed : FuncData} (F_is_headed : FunD K "is_headed" "is_headed" (defArgs s_is_headed) (defBody s_is_headed) (defScope s_is_headed) [] [] a_is_headed fd_is_headed) (g_is_headed : mg "is_headed" = some (.ref a_is_headed)) {a_is_named : Addr} {fd_is_named : FuncData} (F_is_named : FunD K "is_named" "is_named" (defArgs s_is_named) (defBody s_is_named) (defScope s_is_named) [] [] a_is_named fd_is_named) (g_is_named : mg "is_named" = some (.ref a_is_named)) {a_is_built : Addr} {fd_is_built : FuncData} (F_is_built : FunD K "is_built" "is_built" (defArgs s_is_built) (defBody s_is_built) (defScope s_is_built) [] [] a_is_built fd_is_built) (g_is_built : mg "is_built" = some (.ref a_is_built)) {a_is_saying : Addr} {fd_is_saying : FuncData} (F_is_saying : FunD K "is_saying" "is_saying" (defArgs s_is_saying) (defBody s_is_saying) (defScope s_is_saying) [] [] a_is_saying fd_is_saying) (g_is_saying : mg "is_saying" = some (.ref a_is_saying)) {a_is_thing : Addr} {fd_is_thing : FuncData} (F_is_thing : FunD K "is_thing" "is_thing" (defArgs s_is_thing) (defBody s_is_thing) (defScope s_is_thing) [] [] a_is_thing fd_is_thing) (g_is_thing : mg "is_thing" = some (.ref a_is_thing)) {a_is_plain : Addr} {fd_is_plain : FuncData} (F_is_plain : FunD K "is_plain" "is_plain" (defArgs s_is_plain) (defBody s_is_plain) (defScope s_is_plain) [] [] a_is_plain fd_is_plain) (g_is_plain : mg "is_plain" = some (.ref a_is_plain)) {a__law_deck : Addr} {fd__law_deck : FuncData} (F__law_deck : FunD K "_law_deck" "_law_deck" (defArgs s__law_deck) (defBody s__law_deck) (defScope s__law_deck) [] [] a__law_deck fd__law_deck) (g__law_deck : mg "_law_deck" = some (.ref a__law_deck)) {a__law_next : Addr} {fd__law_next : FuncData} (F__law_next : FunD K "_law_next" "_law_next" (defArgs s__law_next) (defBody s__law_next) (defScope s__law_next) [] [] a__law_next fd__law_next) (g__law_next : mg "_law_next" = some (.ref a__law_next)) {a__law_letters : Addr} {fd__law_letters : FuncData} (F__law_letters : FunD K "_law_letters" "_law_letters" (defArgs s__law_letters) (defBody s__law_letters) (defScope s__law_letters) [] [] a__law_letters fd__law_letters) (g__law_letters : mg "_law_letters" = some (.ref a__law_letters)) {a__law_name : Addr} {fd__law_name : FuncData} (F__law_name : FunD K "_law_name" "_law_name" (defArgs s__law_name) (defBody s__law_name) (defScope s__law_name) [] [] a__law_name fd__law_name) (g__law_name : mg "_law_name" = some (.ref a__law_name)) {a__law_any : Addr} {fd__law_any : FuncData} (F__law_any : FunD K "_law_any" "_law_any" (defArgs s__law_any) (defBody s__law_any) (defScope s__law_any) [] [] a__law_any fd__law_any) (g__law_any : mg "_law_any" = some (.ref a__law_any)) {a__law_is_word : Addr} {fd__law_is_word : FuncData} (F__law_is_word : FunD K "_law_is_word" "_law_is_word" (defArgs s__law_is_word) (defBody s__law_is_word) (defScope s__law_is_word) [] [] a__law_is_word fd__law_is_word) (g__law_is_word : mg "_law_is_word" = some (.ref a__law_is_word)) {a__law_is_new : Addr} {fd__law_is_new : FuncData} (F__law_is_new : FunD K "_law_is_new" "_law_is_new" (defArgs s__law_is_new) (defBody s__law_is_new) (defScope s__law_is_new) [] [] a__law_is_new fd__law_is_new) (g__law_is_new : mg "_law_is_new" = some (.ref a__law_is_new)) {a__law_is : Addr} {fd__law_is : FuncData} (F__law_is : FunD K "_law_is" "_law_is" (defArgs s__law_is) (defBody s__law_is) (defScope s__law_is) [] [] a__law_is fd__law_is) (g__law_is : mg "_law_is" = some (.ref a__law_is)) {a__law_odd : Addr} {fd__law_odd : FuncData} (F__law_odd : FunD K "_law_odd" "_law_odd" (defArgs s__law_odd) (defBody s__law_odd) (defScope s__law_odd) [] [] a__law_odd fd__law_odd) (g__law_odd : mg "_law_odd" = some (.ref a__law_odd)) {a__law_text_bent : Addr} {fd__law_text_bent : FuncData} (F__law_text_bent : FunD K "_law_text_bent" "_law_text_bent" (defArgs s__law_text_bent) (defBody s__law_text_bent) (defScope s__law_text_bent) [] [] a__law_text_bent fd__law_text_bent) (g__law_text_bent : mg "_law_text_bent" = some (.ref a__law_text_bent)) {a__law_bent : Addr} {fd__law_bent : FuncData} (F__law_bent : FunD K "_law_bent" "_law_bent" (defArgs s__law_bent) (defBody s__law_bent) (defScope s__law_bent) [] [] a__law_bent fd__law_bent) (g__law_bent : mg "_law_bent" = some (.ref a__law_bent)) {a__law_heads : Addr} {fd__law_heads : FuncData} (F__law_heads : FunD K "_law_heads" "_law_heads" (defArgs s__law_heads) (defBody s__law_heads) (defScope s__law_heads) [] [] a__law_heads fd__law_heads) (g__law_heads : mg "_law_heads" = some (.ref a__law_heads)) {a__law_says : Addr} {fd__law_says : FuncData} (F__law_says : FunD K "_law_says" "_law_says" (defArgs s__law_says) (defBody s__law_says) (defScope s__law_says) [] [] a__law_says fd__law_says) (g__law_says : mg "_law_says" = some (.ref a__law_says)) {a__law_right : Addr} {fd__law_right : FuncData} (F__law_right : FunD K "_law_right" "_law_right" (defArgs s__law_right) (defBody s__law_right) (defScope s__law_right) [] [] a__law_right fd__law_right) (g__law_right : mg "_law_right" = some (.ref a__law_right)) {a_law : Addr} {fd_law : FuncData} (F_law : FunD K "law" "law" (defArgs s_law) (defBody s_law) (defScope s_law) [] [] a_law fd_law) (g_law : mg "law" = some (.ref a_law)) (m_isinstance : mg "isinstance" = none) (m_str : mg "str" = none) (m_len : mg "len" = none) (m_all : mg "all" = none) (m_tuple : mg "tuple" = none) (m_abs : mg "abs" = none) (m_range : mg "range" = none) (m_int : mg "int" = none) (m_list : mg "list" = none) (m_bool : mg "bool" = none) {v_LETTERS : V} (h_LETTERS : Glob K mg "LETTERS" v_LETTERS g_LETTERS) {v_MOST_LETTERS : V} (h_MOST_LETTERS : Glob K mg "MOST_LETTERS" v_MOST_LETTERS g_MOST_LETTERS) {v_TAKEN : V} (h_TAKEN : Glob K mg "TAKEN" v_TAKEN g_TAKEN) {v_FIGURES : V} (h_FIGURES : Glob K mg "FIGURES" v_FIGURES g_FIGURES) {v_MOST_FIGURES : V} (h_MOST_FIGURES : Glob K mg "MOST_FIGURES" v_MOST_FIGURES g_MOST_FIGURES) {v_MOST_PARTS : V} (h_MOST_PARTS : Glob K mg "MOST_PARTS" v_MOST_PARTS g_MOST_PARTS) : FnOk P w K mg base CX0 25 a_law fd_law ["_law_script"] (toSp K 1 sp_law) := by
  have c_is_made_of := fn_is_made_of (P := P) (w := w) (base := base) (k := 0) F_is_made_of g_is_made_of m_isinstance m_str m_len m_all does_made_of
  have c_is_word := fn_is_word (P := P) (w := w) (base := base) (k := 1) F_is_word g_is_word (c_is_made_of.mono (by omega)) h_LETTERS h_MOST_LETTERS h_TAKEN does_is_word
  have c_is_new_name := fn_is_new_name (P := P) (w := w) (base := base) (k := 1) F_is_new_name g_is_new_name (c_is_made_of.mono (by omega)) h_FIGURES h_MOST_FIGURES does_is_new
  have c_is_row := fn_is_row (P := P) (w := w) (base := base) (k := 0) F_is_row g_is_row m_isinstance m_tuple m_len does_is_row
  have c_is_headed := fn_is_headed (P := P) (w := w) (base := base) (k := 1) F_is_headed g_is_headed (c_is_row.1.mono (by omega)) m_isinstance m_str does_is_headed
  have c_is_named := fn_is_named (P := P) (w := w) (base := base) (k := 2) F_is_named g_is_named (c_is_headed.mono (by omega)) (c_is_word.mono (by omega)) (c_is_new_name.mono (by omega)) does_is_named
  have c_is_built := fn_is_built (P := P) (w := w) (base := base) (k := 2) F_is_built g_is_built (c_is_headed.mono (by omega)) (c_is_word.mono (by omega)) (c_is_row.2.mono (by omega)) h_MOST_PARTS does_is_built
  have c_is_saying : ∀ n, Fn P w K mg base (3 + n) "is_saying" 1 (sp_say n) := by
    intro n
    induction n with
    | zero => exact fn_zero F_is_saying g_is_saying (F_is_saying.bindsN (ps := sc_is_saying_ps) fun _ _ _ _ _ _ us hl => match us, hl with | [_], _ => rfl) say_none
    | succ n ih => exact fn_is_saying (P := P) (w := w) (base := base) (k := 3 + n) F_is_saying g_is_saying (c_is_headed.mono (by omega)) ih (c_is_built.mono (by omega)) (c_is_named.mono (by omega)) m_all (does_saying n)
  have c_is_thing : ∀ n, Fn P w K mg base (3 + n) "is_thing" 1 (sp_thing n) := by
    intro n
    induction n with
    | zero => exact fn_zero F_is_thing g_is_thing (F_is_thing.bindsN (ps := sc_is_thing_ps) fun _ _ _ _ _ _ us hl => match us, hl with | [_], _ => rfl) thing_none
    | succ n ih => exact fn_is_thing (P := P) (w := w) (base := base) (k := 3 + n) F_is_thing g_is_thing (c_is_named.mono (by omega)) (c_is_built.mono (by omega)) ih m_all (does_thing n)
  have c_is_plain : ∀ n, Fn P w K mg base (3 + n) "is_plain" 1 (sp_plain n) := by
    intro n
    induction n with
    | zero => exact fn_zero F_is_plain g_is_plain (F_is_plain.bindsN (ps := sc_is_plain_ps) fun _ _ _ _ _ _ us hl => match us, hl with | [_], _ => rfl) plain_none
    | succ n ih => exact fn_is_plain (P := P) (w := w) (base := base) (k := 3 + n) F_is_plain g_is_plain (c_is_built.mono (by omega)) ih m_all (does_plain n)
  have c__law_deck := fn__law_deck (P := P) (w := w) (base := base) (k := 0) F__law_deck g__law_deck m_len m_abs does_deck
  have d__law_deck := fn_deck_told c__law_deck
  have c__law_next := fn__law_next (P := P) (w := w) (base := base) (k := 0) F__law_next g__law_next m_len does_next
  have d__law_next := fn_next_told c__law_next
  have c__law_letters := fn__law_letters (P := P) (w := w) (base := base) (k := 1) F__law_letters g__law_letters (d__law_next.mono (by omega)) m_range (does_letters 0 2147483629)
  have c__law_name := fn__law_name (P := P) (w := w) (base := base) (k := 2) F__law_name g__law_name (c__law_letters.mono (by omega)) (d__law_next.mono (by omega)) m_int m_str (does_name 0 2147483629)
  have c__law_any : ∀ n, Fn P w K mg base (3 + n) "_law_any" 3 (sp_any 0 n) := by
    intro n
    induction n with
    | zero => exact fn_zero F__law_any g__law_any (F__law_any.bindsN (ps := sc__law_any_ps) fun _ _ _ _ _ _ us hl => match us, hl with | [_, _, _], _ => rfl) (any_none 0)
    | succ n ih => exact fn__law_any (P := P) (w := w) (base := base) (k := 3 + n) F__law_any g__law_any ih (c__law_name.mono (by omega)) (d__law_next.mono (by omega)) m_range m_tuple m_int m_len (does_any 0 2147483629 n)
  have c__law_is_word := fn__law_is_word (P := P) (w := w) (base := base) (k := 0) F__law_is_word g__law_is_word m_isinstance m_str m_len does_law_is_word
  have c__law_is_new := fn__law_is_new (P := P) (w := w) (base := base) (k := 0) F__law_is_new g__law_is_new m_isinstance m_str m_len does_law_is_new
  have c__law_is : ∀ n, Fn P w K mg base (1 + n) "_law_is" 2 (sp_is n) := by
    intro n
    induction n with
    | zero => exact fn_zero F__law_is g__law_is (F__law_is.bindsN (ps := sc__law_is_ps) fun _ _ _ _ _ _ us hl => match us, hl with | [_, _], _ => rfl) is_none
    | succ n ih => exact fn__law_is (P := P) (w := w) (base := base) (k := 1 + n) F__law_is g__law_is ih (c__law_is_word.mono (by omega)) (c__law_is_new.mono (by omega)) m_all m_isinstance m_tuple m_len m_str (does_law_is n)
  have c__law_odd := fn__law_odd (P := P) (w := w) (base := base) (k := 0) F__law_odd g__law_odd m_len does_odd
  have c__law_text_bent := fn__law_text_bent (P := P) (w := w) (base := base) (k := 0) F__law_text_bent g__law_text_bent m_len does_text
  have c__law_bent : ∀ n, Fn P w K mg base (1 + n) "_law_bent" 2 (sp_bent n) := by
    intro n
    induction n with
    | zero => exact fn_zero F__law_bent g__law_bent (F__law_bent.bindsN (ps := sc__law_bent_ps) fun _ _ _ _ _ _ us hl => match us, hl with | [_, _], _ => rfl) bent_none
    | succ n ih => exact fn__law_bent (P := P) (w := w) (base := base) (k := 1 + n) F__law_bent g__law_bent (c__law_odd.mono (by omega)) ih (d__law_next.mono (by omega)) (c__law_text_bent.mono (by omega)) m_isinstance m_tuple m_list m_len m_str (does_bent 2147483629 n)
  have c__law_heads := fn__law_heads (P := P) (w := w) (base := base) (k := 0) F__law_heads g__law_heads  does_heads
  have c__law_says := fn__law_says (P := P) (w := w) (base := base) (k := 0) F__law_says g__law_says m_isinstance m_bool does_says
  have c__law_right := fn__law_right (P := P) (w := w) (base := base) (k := 23) F__law_right g__law_right (c__law_says.mono (by omega)) ((c_is_plain 20).mono (by omega)) ((c__law_is 20).mono (by omega)) (c_is_word.mono (by omega)) (c__law_is_word.mono (by omega)) ((c_is_thing 20).mono (by omega)) ((c_is_saying 20).mono (by omega)) does_right
  have c_law := fn_law (P := P) (w := w) (base := base) (k := 24) F_law g_law (c__law_right.mono (by omega)) ((c__law_bent 16).mono (by omega)) (c__law_letters.mono (by omega)) (c__law_name.mono (by omega)) ((c__law_any 5).mono (by omega)) (c__law_heads.mono (by omega)) (d__law_next.mono (by omega)) (d__law_deck.mono (by omega)) m_all m_range (does_law 2147483629)
  exact c_law
def d_is_made_of : He.DefD := ⟨("is_made_of", none), "is_made_of", "is_made_of", defArgs s_is_made_of, defBody s_is_made_of, defScope s_is_made_of, [], []⟩
def d_is_word : He.DefD := ⟨("is_word", none), "is_word", "is_word", defArgs s_is_word, defBody s_is_word, defScope s_is_word, [], []⟩
def d_is_new_name : He.DefD := ⟨("is_new_name", none), "is_new_name", "is_new_name", defArgs s_is_new_name, defBody s_is_new_name, defScope s_is_new_name, [], []⟩
def d_is_row : He.DefD := ⟨("is_row", none), "is_row", "is_row", defArgs s_is_row, defBody s_is_row, defScope s_is_row, [.int 0], []⟩
def d_is_headed : He.DefD := ⟨("is_headed", none), "is_headed", "is_headed", defArgs s_is_headed, defBody s_is_headed, defScope s_is_headed, [], []⟩
def d_is_named : He.DefD := ⟨("is_named", none), "is_named", "is_named", defArgs s_is_named, defBody s_is_named, defScope s_is_named, [], []⟩
def d_is_built : He.DefD := ⟨("is_built", none), "is_built", "is_built", defArgs s_is_built, defBody s_is_built, defScope s_is_built, [], []⟩
def d_is_saying : He.DefD := ⟨("is_saying", none), "is_saying", "is_saying", defArgs s_is_saying, defBody s_is_saying, defScope s_is_saying, [], []⟩
def d_is_thing : He.DefD := ⟨("is_thing", none), "is_thing", "is_thing", defArgs s_is_thing, defBody s_is_thing, defScope s_is_thing, [], []⟩
def d_is_plain : He.DefD := ⟨("is_plain", none), "is_plain", "is_plain", defArgs s_is_plain, defBody s_is_plain, defScope s_is_plain, [], []⟩
def d__law_deck : He.DefD := ⟨("_law_deck", none), "_law_deck", "_law_deck", defArgs s__law_deck, defBody s__law_deck, defScope s__law_deck, [], []⟩
def d__law_next : He.DefD := ⟨("_law_next", none), "_law_next", "_law_next", defArgs s__law_next, defBody s__law_next, defScope s__law_next, [], []⟩
def d__law_letters : He.DefD := ⟨("_law_letters", none), "_law_letters", "_law_letters", defArgs s__law_letters, defBody s__law_letters, defScope s__law_letters, [], []⟩
def d__law_name : He.DefD := ⟨("_law_name", none), "_law_name", "_law_name", defArgs s__law_name, defBody s__law_name, defScope s__law_name, [], []⟩
def d__law_any : He.DefD := ⟨("_law_any", none), "_law_any", "_law_any", defArgs s__law_any, defBody s__law_any, defScope s__law_any, [], []⟩
def d__law_is_word : He.DefD := ⟨("_law_is_word", none), "_law_is_word", "_law_is_word", defArgs s__law_is_word, defBody s__law_is_word, defScope s__law_is_word, [], []⟩
def d__law_is_new : He.DefD := ⟨("_law_is_new", none), "_law_is_new", "_law_is_new", defArgs s__law_is_new, defBody s__law_is_new, defScope s__law_is_new, [], []⟩
def d__law_is : He.DefD := ⟨("_law_is", none), "_law_is", "_law_is", defArgs s__law_is, defBody s__law_is, defScope s__law_is, [], []⟩
def d__law_odd : He.DefD := ⟨("_law_odd", none), "_law_odd", "_law_odd", defArgs s__law_odd, defBody s__law_odd, defScope s__law_odd, [], []⟩
def d__law_text_bent : He.DefD := ⟨("_law_text_bent", none), "_law_text_bent", "_law_text_bent", defArgs s__law_text_bent, defBody s__law_text_bent, defScope s__law_text_bent, [], []⟩
def d__law_bent : He.DefD := ⟨("_law_bent", none), "_law_bent", "_law_bent", defArgs s__law_bent, defBody s__law_bent, defScope s__law_bent, [], []⟩
def d__law_heads : He.DefD := ⟨("_law_heads", none), "_law_heads", "_law_heads", defArgs s__law_heads, defBody s__law_heads, defScope s__law_heads, [], []⟩
def d__law_says : He.DefD := ⟨("_law_says", none), "_law_says", "_law_says", defArgs s__law_says, defBody s__law_says, defScope s__law_says, [], []⟩
def d__law_right : He.DefD := ⟨("_law_right", none), "_law_right", "_law_right", defArgs s__law_right, defBody s__law_right, defScope s__law_right, [], []⟩
def d_law : He.DefD := ⟨("law", none), "law", "law", defArgs s_law, defBody s_law, defScope s_law, [], []⟩
def fnD : List He.DefD := [d_is_made_of, d_is_word, d_is_new_name, d_is_row, d_is_headed, d_is_named, d_is_built, d_is_saying, d_is_thing, d_is_plain, d__law_deck, d__law_next, d__law_letters, d__law_name, d__law_any, d__law_is_word, d__law_is_new, d__law_is, d__law_odd, d__law_text_bent, d__law_bent, d__law_heads, d__law_says, d__law_right, d_law]
def faD : List He.Fa := [.glo "is_made_of", .glo "is_word", .glo "is_new_name", .glo "is_row", .glo "is_headed", .glo "is_named", .glo "is_built", .glo "is_saying", .glo "is_thing", .glo "is_plain", .glo "_law_deck", .glo "_law_next", .glo "_law_letters", .glo "_law_name", .glo "_law_any", .glo "_law_is_word", .glo "_law_is_new", .glo "_law_is", .glo "_law_odd", .glo "_law_text_bent", .glo "_law_bent", .glo "_law_heads", .glo "_law_says", .glo "_law_right", .glo "law", .free "isinstance", .free "str", .free "len", .free "all", .free "tuple", .free "abs", .free "range", .free "int", .free "list", .free "bool"]
abbrev R : PySem.W.OpenRow := PySem.W.OpenLaw.row PySem.Challenge.rw_needfill_k01_words_and_sayings
def gsD : List (Str × D) := [("LETTERS", g_LETTERS), ("MOST_LETTERS", g_MOST_LETTERS), ("TAKEN", g_TAKEN), ("FIGURES", g_FIGURES), ("MOST_FIGURES", g_MOST_FIGURES), ("MOST_PARTS", g_MOST_PARTS)]
abbrev hk : PySem.W.Hook := hookE 4 faD fnD gsD
def ob (s : PySem.W.SharedT) : AlE := obsE 4 faD fnD gsD (HandSHeadRun.getT s)
theorem ob_eq (s : PySem.W.SharedT) : ob s = hk.obs s.abs := obsE_eq (HandSHeadRun.getT_eq s)
abbrev loose : List Str := ["LETTERS", "FIGURES", "TAKEN", "MOST_LETTERS", "MOST_FIGURES", "MOST_PARTS", "is_made_of", "is_word", "is_new_name", "is_row", "is_headed", "is_named", "is_built", "is_saying", "is_thing", "is_plain", "_law_deck", "_law_next", "_law_letters", "_law_name", "_law_any", "_law_is_word", "_law_is_new", "_law_is", "_law_odd", "_law_text_bent", "_law_bent", "_law_heads", "_law_says", "_law_right"]
theorem run (w : World) : HandSHeadRun.RunEq R (PySem.W.view R.prog [32]) hk ob 4000 loose w := by
  intro os
  kernel_rfl
theorem facts {P : Program} {w : World} {K : PySem.W.Frag} {h : Heap} {mg : Str → Option Value} {f : Addr} (X : K.In h) (G : h.Ns mainGlobals mg) (hfa : mg ("law" : Str) = some (.ref f)) (cE : SaysE faD fnD gsD K) :
    ∃ fd : FuncData, (∀ (s : Shared) (v : Value), BindsTo s fd ⟨[v], []⟩ [("_law_script", v)]) ∧ ∀ base : Heap, K.In base → base.Ns mainGlobals mg → FnOk P w K mg base CX0 25 f fd ["_law_script"] (toSp K 1 sp_law) := by
  have c := cE.d
  obtain ⟨v_LETTERS, h_LETTERS⟩ := globB_ok X G (cE.g ("LETTERS", g_LETTERS) (by simp [gsD]))
  obtain ⟨v_MOST_LETTERS, h_MOST_LETTERS⟩ := globB_ok X G (cE.g ("MOST_LETTERS", g_MOST_LETTERS) (by simp [gsD]))
  obtain ⟨v_TAKEN, h_TAKEN⟩ := globB_ok X G (cE.g ("TAKEN", g_TAKEN) (by simp [gsD]))
  obtain ⟨v_FIGURES, h_FIGURES⟩ := globB_ok X G (cE.g ("FIGURES", g_FIGURES) (by simp [gsD]))
  obtain ⟨v_MOST_FIGURES, h_MOST_FIGURES⟩ := globB_ok X G (cE.g ("MOST_FIGURES", g_MOST_FIGURES) (by simp [gsD]))
  obtain ⟨v_MOST_PARTS, h_MOST_PARTS⟩ := globB_ok X G (cE.g ("MOST_PARTS", g_MOST_PARTS) (by simp [gsD]))
  obtain ⟨fd_is_made_of, F_is_made_of⟩ := c.def_ 0 (d := d_is_made_of) rfl
  obtain ⟨fd_is_word, F_is_word⟩ := c.def_ 1 (d := d_is_word) rfl
  obtain ⟨fd_is_new_name, F_is_new_name⟩ := c.def_ 2 (d := d_is_new_name) rfl
  obtain ⟨fd_is_row, F_is_row⟩ := c.def_ 3 (d := d_is_row) rfl
  obtain ⟨fd_is_headed, F_is_headed⟩ := c.def_ 4 (d := d_is_headed) rfl
  obtain ⟨fd_is_named, F_is_named⟩ := c.def_ 5 (d := d_is_named) rfl
  obtain ⟨fd_is_built, F_is_built⟩ := c.def_ 6 (d := d_is_built) rfl
  obtain ⟨fd_is_saying, F_is_saying⟩ := c.def_ 7 (d := d_is_saying) rfl
  obtain ⟨fd_is_thing, F_is_thing⟩ := c.def_ 8 (d := d_is_thing) rfl
  obtain ⟨fd_is_plain, F_is_plain⟩ := c.def_ 9 (d := d_is_plain) rfl
  obtain ⟨fd__law_deck, F__law_deck⟩ := c.def_ 10 (d := d__law_deck) rfl
  obtain ⟨fd__law_next, F__law_next⟩ := c.def_ 11 (d := d__law_next) rfl
  obtain ⟨fd__law_letters, F__law_letters⟩ := c.def_ 12 (d := d__law_letters) rfl
  obtain ⟨fd__law_name, F__law_name⟩ := c.def_ 13 (d := d__law_name) rfl
  obtain ⟨fd__law_any, F__law_any⟩ := c.def_ 14 (d := d__law_any) rfl
  obtain ⟨fd__law_is_word, F__law_is_word⟩ := c.def_ 15 (d := d__law_is_word) rfl
  obtain ⟨fd__law_is_new, F__law_is_new⟩ := c.def_ 16 (d := d__law_is_new) rfl
  obtain ⟨fd__law_is, F__law_is⟩ := c.def_ 17 (d := d__law_is) rfl
  obtain ⟨fd__law_odd, F__law_odd⟩ := c.def_ 18 (d := d__law_odd) rfl
  obtain ⟨fd__law_text_bent, F__law_text_bent⟩ := c.def_ 19 (d := d__law_text_bent) rfl
  obtain ⟨fd__law_bent, F__law_bent⟩ := c.def_ 20 (d := d__law_bent) rfl
  obtain ⟨fd__law_heads, F__law_heads⟩ := c.def_ 21 (d := d__law_heads) rfl
  obtain ⟨fd__law_says, F__law_says⟩ := c.def_ 22 (d := d__law_says) rfl
  obtain ⟨fd__law_right, F__law_right⟩ := c.def_ 23 (d := d__law_right) rfl
  obtain ⟨fd_law, F_law⟩ := c.def_ 24 (d := d_law) rfl
  have g_is_made_of := He.glo_ok X G (c.fact 0 (f := .glo "is_made_of") rfl)
  have g_is_word := He.glo_ok X G (c.fact 1 (f := .glo "is_word") rfl)
  have g_is_new_name := He.glo_ok X G (c.fact 2 (f := .glo "is_new_name") rfl)
  have g_is_row := He.glo_ok X G (c.fact 3 (f := .glo "is_row") rfl)
  have g_is_headed := He.glo_ok X G (c.fact 4 (f := .glo "is_headed") rfl)
  have g_is_named := He.glo_ok X G (c.fact 5 (f := .glo "is_named") rfl)
  have g_is_built := He.glo_ok X G (c.fact 6 (f := .glo "is_built") rfl)
  have g_is_saying := He.glo_ok X G (c.fact 7 (f := .glo "is_saying") rfl)
  have g_is_thing := He.glo_ok X G (c.fact 8 (f := .glo "is_thing") rfl)
  have g_is_plain := He.glo_ok X G (c.fact 9 (f := .glo "is_plain") rfl)
  have g__law_deck := He.glo_ok X G (c.fact 10 (f := .glo "_law_deck") rfl)
  have g__law_next := He.glo_ok X G (c.fact 11 (f := .glo "_law_next") rfl)
  have g__law_letters := He.glo_ok X G (c.fact 12 (f := .glo "_law_letters") rfl)
  have g__law_name := He.glo_ok X G (c.fact 13 (f := .glo "_law_name") rfl)
  have g__law_any := He.glo_ok X G (c.fact 14 (f := .glo "_law_any") rfl)
  have g__law_is_word := He.glo_ok X G (c.fact 15 (f := .glo "_law_is_word") rfl)
  have g__law_is_new := He.glo_ok X G (c.fact 16 (f := .glo "_law_is_new") rfl)
  have g__law_is := He.glo_ok X G (c.fact 17 (f := .glo "_law_is") rfl)
  have g__law_odd := He.glo_ok X G (c.fact 18 (f := .glo "_law_odd") rfl)
  have g__law_text_bent := He.glo_ok X G (c.fact 19 (f := .glo "_law_text_bent") rfl)
  have g__law_bent := He.glo_ok X G (c.fact 20 (f := .glo "_law_bent") rfl)
  have g__law_heads := He.glo_ok X G (c.fact 21 (f := .glo "_law_heads") rfl)
  have g__law_says := He.glo_ok X G (c.fact 22 (f := .glo "_law_says") rfl)
  have g__law_right := He.glo_ok X G (c.fact 23 (f := .glo "_law_right") rfl)
  have g_law := He.glo_ok X G (c.fact 24 (f := .glo "law") rfl)
  have m_isinstance := He.free_ok X G (c.fact 25 (f := .free "isinstance") rfl)
  have m_str := He.free_ok X G (c.fact 26 (f := .free "str") rfl)
  have m_len := He.free_ok X G (c.fact 27 (f := .free "len") rfl)
  have m_all := He.free_ok X G (c.fact 28 (f := .free "all") rfl)
  have m_tuple := He.free_ok X G (c.fact 29 (f := .free "tuple") rfl)
  have m_abs := He.free_ok X G (c.fact 30 (f := .free "abs") rfl)
  have m_range := He.free_ok X G (c.fact 31 (f := .free "range") rfl)
  have m_int := He.free_ok X G (c.fact 32 (f := .free "int") rfl)
  have m_list := He.free_ok X G (c.fact 33 (f := .free "list") rfl)
  have m_bool := He.free_ok X G (c.fact 34 (f := .free "bool") rfl)
  have e := hfa.symm.trans g_law
  cases e
  have b := FunD.bindsA (ps := ["_law_script"]) F_law fun _ _ _ _ _ _ us hl => match us, hl with | [_], _ => rfl
  refine ⟨fd_law, fun s v => b s [v] rfl, fun base _ _ => ?_⟩
  exact chain (P := P) (w := w) (base := base) F_is_made_of g_is_made_of F_is_word g_is_word F_is_new_name g_is_new_name F_is_row g_is_row F_is_headed g_is_headed F_is_named g_is_named F_is_built g_is_built F_is_saying g_is_saying F_is_thing g_is_thing F_is_plain g_is_plain F__law_deck g__law_deck F__law_next g__law_next F__law_letters g__law_letters F__law_name g__law_name F__law_any g__law_any F__law_is_word g__law_is_word F__law_is_new g__law_is_new F__law_is g__law_is F__law_odd g__law_odd F__law_text_bent g__law_text_bent F__law_bent g__law_bent F__law_heads g__law_heads F__law_says g__law_says F__law_right g__law_right F_law g_law m_isinstance m_str m_len m_all m_tuple m_abs m_range m_int m_list m_bool h_LETTERS h_MOST_LETTERS h_TAKEN h_FIGURES h_MOST_FIGURES h_MOST_PARTS
end DL
open PySem PySem.W PySem.Calls PyProof.Rows
theorem PySem.Challenge.cw_needfill_k01_words_and_sayings_holds : PySem.Challenge.rw_needfill_k01_words_and_sayings.Holds := by
  w_on; o_law
  refine HandSHeadRun.head_any (r := OpenLaw.row PySem.Challenge.rw_needfill_k01_words_and_sayings) (q := view (OpenLaw.row PySem.Challenge.rw_needfill_k01_words_and_sayings).prog [32]) (H := DL.hk) (ob := DL.ob) (M := 4000) (loose := DL.loose) (d := HandSHeadRun.topDef (OpenLaw.row PySem.Challenge.rw_needfill_k01_words_and_sayings).prog 32) (kwd := []) DL.ob_eq
    (by kernel_rfl) (fun s => by kernel_rfl) DL.run (by kernel_rfl) (by kernel_rfl) (by kernel_rfl) (by rfl) (by first | assumption | decide +kernel) (by decide +kernel) ⟨rfl, rfl, rfl, rfl, rfl, by decide +kernel⟩ ?hw ?hc
  case hw => w_witness2
  case hc =>
    refine L2.walk_ofE (l := PySem.Challenge.rw_needfill_k01_words_and_sayings) (n := 63) (k := 25) (x := "_law_script") (CX := L2.CX0) rfl (by decide) (by kernel_rfl) ⟨rfl, by decide, by decide⟩ ?F (fun _ _ _ _ z => z)
    intro w mg fa h Y G hmg0
    obtain ⟨K, KX, c⟩ := Y
    have hmg : mg ("law" : PySem.Str) = some (.ref fa) := by
      have e : (HandSHeadRun.topDef (OpenLaw.row PySem.Challenge.rw_needfill_k01_words_and_sayings).prog 32).name = ("law" : PySem.Str) := by kernel_rfl
      rw [← e]
      exact hmg0
    obtain ⟨fd, hb, hF⟩ := DL.facts (P := (PySem.Challenge.rw_needfill_k01_words_and_sayings).prog) (w := w) KX G hmg c
    exact ⟨K, fd, DL.toSp K 1 DL.sp_law, KX, hb, fun H a ns hl _ hS => DL.law_start hl hS, hF⟩
