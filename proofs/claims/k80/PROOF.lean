import PyProof.Rows.All
import Wide.All
import OpenK.AllK
import Wide.FinOn
import PyProof.EqAt
import PyProof.EqKinds
import PyProof.TupleCall
import HandS.Base
import HandS.Call
import HandS.List
import HandS.Comp
import HandS.Zip
import HandS.Strs
import HandS.SetFor
import HandS.TupLe
import HandS.TupMul
import HandS.Deep
import HandS.TupSets
import HandS.TupAny
import HandS.Style
import HandS.Flow
import HandS.IsInst
import HandS.SortInts
import HandS.Defaults
import HandS.Walk
import HandS.Words
import KE.GoesEnum
import HandS.Conv
import HandS.Ends
import HandS.HeadEnd
import KE.KStateDown
import Lean
import HandS.Head0
import HandS.Head1
import HandS.Head2
import HandS.HeadHook1
import HandS.HeadHook2
import HandS.HeadHook4
import PySem.Challenge.RW_wholebeside_k80_whole_papers_of_points_b
set_option Elab.async false
set_option linter.all false
set_option maxRecDepth 100000
set_option maxHeartbeats 0
/-! PX: a walk of Python defs over plain data. Part a: data, states, what a text is worth (the evaluator). -/
namespace PX
open PySem PySem.Spec PyProof.Rows L2

abbrev D := PyData
abbrev St := L2.St

/-- a name's slot: nothing yet, data that never changes, a list that this name alone holds, a list lent by the caller -/
inductive Slot where
  | un
  | fz (d : D)
  | ow (xs : List D)
  | io (xs : List D)
abbrev Env := List Slot
/-- the slot holds a list of its own or a lent one -/
def isOwn : Slot → Bool
  | .ow _ => true
  | .io _ => true
  | _ => false
/-- an outcome: a value, an exception (of a class, with its value), or not followed -/
inductive Res (α : Type) where
  | ok (a : α)
  | ex (c : String) (v : D) (ρ : Env)
  | bad
def Res.bind {α β : Type} : Res α → (α → Res β) → Res β
  | .ok a, f => f a
  | .ex c v ρ, _ => .ex c v ρ
  | .bad, _ => .bad
@[simp] theorem bind_ok {α β : Type} (a : α) (f : α → Res β) : Res.bind (.ok a) f = f a := rfl
@[simp] theorem bind_bad {α β : Type} (f : α → Res β) : Res.bind .bad f = .bad := rfl
@[simp] theorem bind_ex {α β : Type} (c : String) (v : D) (ρ : Env) (f : α → Res β) : Res.bind (.ex c v ρ) f = .ex c v ρ := rfl
def Res.need {α : Type} : Option α → Res α
  | some a => .ok a
  | none => .bad
@[simp] theorem need_some {α : Type} (a : α) : Res.need (some a) = .ok a := rfl
@[simp] theorem need_none {α : Type} : (Res.need (none : Option α)) = .bad := rfl

/-- an expression's value: data, the list of a slot, a new list -/
inductive Val where
  | d (x : D)
  | own (i : Nat)
  | fr (xs : List D)
/-- an argument handed over -/
inductive Arg where
  | fz (d : D)
  | io (xs : List D)
/-- what a call hands back, and the lent lists as they are then -/
abbrev Ret := Val × List (List D)
abbrev CallT := String → List Arg → Res Ret

def slot (ρ : Env) (i : Nat) : Slot := (ρ[i]?).getD .un
def slotD : Slot → Option D
  | .un => none
  | .fz d => some d
  | .ow xs => some (.list xs)
  | .io xs => some (.list xs)
/-- the data that an operand is -/
def look (ρ : Env) : Val → Option D
  | .d x => some x
  | .own i => slotD (slot ρ i)
  | .fr xs => some (.list xs)
/-- an operand that is handed on for good: a list of its own is frozen -/
def alias1 (ρ : Env) : Val → Option (D × Env)
  | .d x => some (x, ρ)
  | .fr _ => none
  | .own i => match slot ρ i with
    | .fz d => some (d, ρ)
    | .ow xs => some (.list xs, ρ.set i (.fz (.list xs)))
    | _ => none
def aliasL (ρ : Env) : List Val → Option (List D × Env)
  | [] => some ([], ρ)
  | v :: vs => match alias1 ρ v with
    | none => none
    | some (d, ρ1) => match aliasL ρ1 vs with
      | none => none
      | some (ds, ρ2) => some (d :: ds, ρ2)
def lookL (ρ : Env) : List Val → Option (List D)
  | [] => some []
  | v :: vs => match look ρ v with
    | none => none
    | some d => match lookL ρ vs with
      | none => none
      | some ds => some (d :: ds)
/-- a new list that is not at once given a name is data -/
def settle : Val × Env → Val × Env
  | (.fr xs, ρ) => (.d (.list xs), ρ)
  | x => x

mutual
/-- no list, dict within -/
def imm : D → Bool
  | .none | .bool _ | .int _ | .str _ => true
  | .tuple xs => immL xs
  | .list _ | .dict _ => false
def immL : List D → Bool
  | [] => true
  | x :: xs => imm x && immL xs
end

/-! ### operators -/
/-- bounds that stand still in the kernel -/
def inB (lo hi : Nat) : Int → Bool
  | .ofNat n => Nat.ble n hi
  | .negSucc n => Nat.ble (n + 1) lo
theorem inB_iff {lo hi : Nat} {i : Int} : inB lo hi i = true ↔ -(lo : Int) ≤ i ∧ i ≤ hi := by
  cases i with
  | ofNat n =>
    show Nat.ble n hi = true ↔ _
    rw [Nat.ble_eq]
    simp only [Int.ofNat_eq_natCast]
    omega
  | negSucc n =>
    show Nat.ble (n + 1) lo = true ↔ _
    rw [Nat.ble_eq]
    omega
def In64 (i : Int) : Prop := -(2 ^ 64) < i ∧ i < 2 ^ 64
def In63 (i : Int) : Prop := -(2 ^ 63) ≤ i ∧ i < 2 ^ 63
def In62 (j : Int) : Prop := -(2 ^ 62) ≤ j ∧ j ≤ 16777216
def In20 (j : Int) : Prop := 0 ≤ j ∧ j ≤ 1000000
instance (i : Int) : Decidable (In64 i) := decidable_of_iff (inB 18446744073709551615 18446744073709551615 i = true) (by rw [inB_iff]; unfold In64; omega)
instance (i : Int) : Decidable (In63 i) := decidable_of_iff (inB 9223372036854775808 9223372036854775807 i = true) (by rw [inB_iff]; unfold In63; omega)
instance (i : Int) : Decidable (In62 i) := decidable_of_iff (inB 4611686018427387904 16777216 i = true) (by rw [inB_iff]; unfold In62; omega)
instance (i : Int) : Decidable (In20 i) := decidable_of_iff (inB 0 1000000 i = true) (by rw [inB_iff]; unfold In20; omega)
/-- the bounds of a range -/
def rgFits (i j : Int) : Prop := -(2 ^ 60) ≤ i ∧ i < 2 ^ 60 ∧ -(2 ^ 60) ≤ j ∧ j < 2 ^ 60 ∧ j - i ≤ 16777216
instance (i j : Int) : Decidable (rgFits i j) := decidable_of_iff ((inB 1152921504606846976 1152921504606846975 i && inB 1152921504606846976 1152921504606846975 j && inB 4611686018427387904 16777216 (j - i)) = true) (by
  rw [Bool.and_eq_true, Bool.and_eq_true, inB_iff, inB_iff, inB_iff]
  unfold rgFits
  omega)
def fits (n : Nat) : Bool := decide (n ≤ sizeLine)
def asInts : List D → Option (List Int)
  | [] => some []
  | .int i :: r => (asInts r).map (i :: ·)
  | _ => none
def asBools : List D → Option (List Bool)
  | [] => some []
  | .bool b :: r => (asBools r).map (b :: ·)
  | _ => none
def flatD : D → Bool
  | .none | .bool _ | .int _ | .str _ => true
  | _ => false
def binV : Operator → D → D → Res Val
  | .Add, .int i, .int j => .ok (.d (.int (i + j)))
  | .Add, .tuple xs, .tuple ys => if fits (xs.length + ys.length) then .ok (.d (.tuple (xs ++ ys))) else .bad
  | .Add, .list xs, .list ys => if fits (xs.length + ys.length) then .ok (.fr (xs ++ ys)) else .bad
  | .Sub, .int i, .int j => .ok (.d (.int (i - j)))
  | .Mult, .int i, .int j => if In64 i ∨ In64 j then .ok (.d (.int (i * j))) else .bad
  | .Mult, .list xs, .int k => if In63 k ∧ xs.length * k.toNat ≤ sizeLine then .ok (.fr (List.replicate k.toNat xs).flatten) else .bad
  | .Mult, .tuple xs, .int k => if !xs.isEmpty && inB 0 1000 k && decide (xs.length ≤ 1000) then .ok (.d (.tuple (List.replicate k.toNat xs).flatten)) else .bad
  | .FloorDiv, .int i, .int j => if j ≠ 0 ∧ j.natAbs < 1073741824 then .ok (.d (.int (i.fdiv j))) else .bad
  | .Mod, .int i, .int j => if j ≠ 0 then .ok (.d (.int (i.fmod j))) else .bad
  | .Pow, .int i, .int j => if In20 j ∧ i.natAbs < 2 ^ 64 then .ok (.d (.int (i ^ j.toNat))) else .bad
  | .LShift, .int i, .int j => if In20 j ∧ i.natAbs < 2 ^ 64 then .ok (.d (.int (i * 2 ^ j.toNat))) else .bad
  | .BitAnd, .int i, .int j => .ok (.d (.int (Builtin.bitAnd i j)))
  | .BitOr, .int i, .int j => .ok (.d (.int (Builtin.bitOr i j)))
  | _, _, _ => .bad
def inD (x : D) (xs : List D) : Bool := xs.any fun y => PyData.eqv y x
def cmpV : CmpOp → D → D → Res Bool
  | .Eq, a, b => if SeqAt.shaped a && SeqAt.shaped b then .ok (PyData.eqv a b) else .bad
  | .NotEq, a, b => if SeqAt.shaped a && SeqAt.shaped b then .ok (!PyData.eqv a b) else .bad
  | .Lt, .int i, .int j => .ok (decide (i < j))
  | .Lt, .tuple xs, .tuple ys => match asInts xs, asInts ys with
    | some ns, some ms => .ok (HT.lexLt ns ms)
    | _, _ => .bad
  | .Is, .bool a, .bool b => .ok (decide (a = b))
  | .IsNot, .bool a, .bool b => .ok (!decide (a = b))
  | .LtE, .int i, .int j => .ok (decide (i ≤ j))
  | .Gt, .int i, .int j => .ok (decide (j < i))
  | .GtE, .int i, .int j => .ok (decide (j ≤ i))
  | .In, x, .list xs => if flatD x && xs.all flatD then .ok (inD x xs) else if SeqAt.shaped x && SeqAt.shaped (.list xs) then .ok (inD x xs) else .bad
  | .In, x, .tuple xs => if flatD x && xs.all flatD then .ok (inD x xs) else if SeqAt.shaped x && SeqAt.shaped (.list xs) then .ok (inD x xs) else .bad
  | .NotIn, x, .list xs => if flatD x && xs.all flatD then .ok (!inD x xs) else if SeqAt.shaped x && SeqAt.shaped (.list xs) then .ok (!inD x xs) else .bad
  | .NotIn, x, .tuple xs => if flatD x && xs.all flatD then .ok (!inD x xs) else if SeqAt.shaped x && SeqAt.shaped (.list xs) then .ok (!inD x xs) else .bad
  | _, _, _ => .bad
def truthD : D → Res Bool
  | .none => .ok false
  | .bool b => .ok b
  | .int i => .ok (i != 0)
  | .list xs => .ok (!xs.isEmpty)
  | .tuple xs => .ok (!xs.isEmpty)
  | _ => .bad
def isNoneD : D → Bool
  | .none => true
  | _ => false
def ixV : D → D → Res Val
  | .list xs, .int i => match atI xs i with
    | some v => .ok (.d v)
    | none => .bad
  | .tuple xs, .int i => match atI xs i with
    | some v => .ok (.d v)
    | none => .bad
  | _, _ => .bad
def cutD (xs : List D) (lo hi : Option Int) : List D := (xs.drop (HT.sIx xs.length 0 lo)).take (HT.sIx xs.length xs.length hi - HT.sIx xs.length 0 lo)
def slV : D → Option Int → Option Int → Res Val
  | .list xs, lo, hi => .ok (.fr (cutD xs lo hi))
  | .tuple xs, lo, hi => .ok (.d (.tuple (cutD xs lo hi)))
  | _, _, _ => .bad
def revV : D → Res Val
  | .list xs => .ok (.fr xs.reverse)
  | .tuple xs => .ok (.d (.tuple xs.reverse))
  | _ => .bad
def negV : D → Res Val
  | .int i => .ok (.d (.int (-i)))
  | _ => .bad
def augV : Operator → D → D → Res Val
  | .Add, .int i, .int j => .ok (.d (.int (i + j)))
  | .Sub, .int i, .int j => .ok (.d (.int (i - j)))
  | .Mult, .int i, .int j => if In64 i ∨ In64 j then .ok (.d (.int (i * j))) else .bad
  | _, _, _ => .bad
def zipD : List D → Option (List D)
  | [.tuple xs, .tuple ys] => some ((xs.zip ys).map fun p => .tuple [p.1, p.2])
  | [.list xs, .list ys] => some ((xs.zip ys).map fun p => .tuple [p.1, p.2])
  | _ => none
def enumD : D → Option (List D)
  | .list xs => some (xs.zipIdx.map fun p => .tuple [.int p.2, p.1])
  | .tuple xs => some (xs.zipIdx.map fun p => .tuple [.int p.2, p.1])
  | _ => none
/-- built-in kinds that isinstance asks for -/
inductive Ty where
  | int | bool | str | tuple | list
  deriving DecidableEq
def isTy : Ty → D → Bool
  | .int, .int _ => true
  | .int, .bool _ => true
  | .bool, .bool _ => true
  | .str, .str _ => true
  | .tuple, .tuple _ => true
  | .list, .list _ => true
  | _, _ => false
/-- built-ins called by name -/
inductive Bi where
  | len | all | any | tuple | list | int | sum | min | max | abs | sorted
  deriving DecidableEq
def seqOf : D → Option (List D)
  | .list xs => some xs
  | .tuple xs => some xs
  | _ => none
def sortZ (ns : List Int) : List Int := ns.mergeSort fun a b => decide (a ≤ b)
def dedupZ : List Int → List Int
  | [] => []
  | n :: ns => if ns.contains n then dedupZ ns else n :: dedupZ ns
/-- a set's numbers, ascending -/
def setZ (ns : List Int) : List Int := sortZ (dedupZ ns)
theorem sortZ_le' (a : List Int) : (sortZ a).Pairwise (· ≤ ·) := by
  have := List.pairwise_mergeSort (le := fun a b : Int => decide (a ≤ b)) (fun a b c h1 h2 => by simp at *; omega) (fun a b => by simp; omega) a
  exact this.imp fun h => by simpa using h
def leastZ : Int → List Int → Int
  | m, [] => m
  | m, n :: ns => leastZ (if n < m then n else m) ns
def greatZ : Int → List Int → Int
  | m, [] => m
  | m, n :: ns => greatZ (if n > m then n else m) ns
def biV : Bi → List D → Res Val
  | .len, [.list xs] => .ok (.d (.int xs.length))
  | .len, [.tuple xs] => .ok (.d (.int xs.length))
  | .all, [.list xs] => match asBools xs with
    | some bs => .ok (.d (.bool (bs.all id)))
    | none => .bad
  | .any, [.list xs] => match asBools xs with
    | some bs => .ok (.d (.bool (bs.any id)))
    | none => .bad
  | .tuple, [.list xs] => .ok (.d (.tuple xs))
  | .tuple, [.tuple xs] => .ok (.d (.tuple xs))
  | .list, [.list xs] => .ok (.fr xs)
  | .list, [.tuple xs] => .ok (.fr xs)
  | .int, [.int i] => .ok (.d (.int i))
  | .int, [.bool b] => .ok (.d (.int (if b then 1 else 0)))
  | .abs, [.int i] => .ok (.d (.int (if i < 0 then -i else i)))
  | .max, [.int i, .int j] => .ok (.d (.int (if j > i then j else i)))
  | .min, [.int i, .int j] => .ok (.d (.int (if j < i then j else i)))
  | .max, [.list xs] => match asInts xs with
    | some (n :: ns) => .ok (.d (.int (greatZ n ns)))
    | _ => .bad
  | .min, [.list xs] => match asInts xs with
    | some (n :: ns) => .ok (.d (.int (leastZ n ns)))
    | _ => .bad
  | .sum, [.list xs] => match asInts xs with
    | some ns => .ok (.d (.int ns.sum))
    | none => .bad
  | .sorted, [.list xs] => match asInts xs with
    | some ns => .ok (.fr ((sortZ ns).map .int))
    | none => .bad
  | .sorted, [.tuple xs] => match asInts xs with
    | some ns => .ok (.fr ((sortZ ns).map .int))
    | none => .bad
  | _, _ => .bad

def lenSetV (x : D) : Res Val := match seqOf x with
  | some xs => (match asInts xs with
    | some ns => if ns.length ≤ 1000 then .ok (.d (.int ((dedupZ ns).length : Nat))) else .bad
    | none => .bad)
  | none => .bad
def sortSetV : D → Res Val
  | .tuple xs => (match asInts xs with
    | some ns => if ns.length < 64 then .ok (.fr ((setZ ns).map .int)) else .bad
    | none => .bad)
  | _ => .bad
/-- methods that change a list -/
inductive Mt where
  | append | pop | popAt | extend
  deriving DecidableEq
def mtV : Mt → List D → List D → Option (D × List D)
  | .append, xs, [d] => if xs.length < sizeLine then some (.none, xs ++ [d]) else none
  | .pop, xs, [] => xs.getLast?.map fun d => (d, xs.dropLast)
  | .popAt, xs, [.int i] => if In63 i then (match ixN xs.length i with
    | some k => xs[k]?.map fun d => (d, xs.eraseIdx k)
    | none => none) else none
  | .extend, xs, [.list ys] => if xs.length + ys.length ≤ sizeLine then some (.none, xs ++ ys) else none
  | _, _, _ => none
def listOf : Slot → List D
  | .ow xs => xs
  | .io xs => xs
  | _ => []

/-! ### the text -/
inductive Tg where
  | nm (i : Nat)
  | tp (is : List Nat)
mutual
inductive E where
  | nm (i : Nat)
  | c (d : D)
  | tup (es : Es)
  | lst (es : Es)
  | bin (op : Operator) (a b : E)
  | neg (a : E)
  | not (a : E)
  | and (a b : E)
  | or (a b : E)
  | cmp (op : CmpOp) (a b : E)
  | chain (op op2 : CmpOp) (a b c : E)
  | isN (a : E)
  | notN (a : E)
  | ife (c : T) (a b : E)
  | ix (a b : E)
  | sl00 (a : E)
  | sl10 (a lo : E)
  | sl01 (a hi : E)
  | sl11 (a lo hi : E)
  | rev (a : E)
  | call (f : String) (es : Es)
  | callk (f : String) (es ks : Es) (names : List String) (perm : List Nat)
  | bi (b : Bi) (es : Es)
  | isi (a : E) (t : Ty)
  | mut (m : Mt) (i : Nat) (es : Es)
  | isi2 (a : E) (t t2 : Ty)
  | lenset (a : E)
  | sortset (a : E)
  | rgl1 (tup : Bool) (a : E)
  | rgl2 (tup : Bool) (a b : E)
  | comp (elt : E) (tg : Tg) (src : Src) (own : List Nat)
  | compif (elt : E) (tg : Tg) (src : Src) (cond : T) (own : List Nat)
  | comp2 (elt : E) (tg : Tg) (src : Src) (tg1 : Tg) (src1 : Src) (own own1 : List Nat)
/-- a test -/
inductive T where
  | not (t : T)
  | and (a b : T)
  | or (a b : T)
  | val (e : E)
inductive Es where
  | nil
  | cons (e : E) (es : Es)
inductive Src where
  | seq (e : E)
  | zip (a b : E)
  | enum (e : E)
  | rng1 (a : E)
  | rng2 (a b : E)
end
mutual
inductive S where
  | asg (i : Nat) (keep : Bool) (e : E)
  | asgT (tg : Tg) (e : E)
  | mul (is : List (Nat × Bool)) (es : Es)
  | setix (i : Nat) (ix e : E)
  | swapix (i : Nat) (ix ix2 e : E)
  | aug (i : Nat) (op : Operator) (e : E)
  | augix (i : Nat) (ix : E) (op : Operator) (e : E)
  | ex (e : E)
  | ret (e : E)
  | retN
  | ife (c : T) (a b : Ss)
  | for_ (tg : Tg) (src : Src) (body : Ss)
  | while_ (c : T) (body : Ss)
  | pass
  | never
  | brk
  | cont
inductive Ss where
  | nil
  | cons (s : S) (ss : Ss)
end

/-! ### calls -/
/-- a def: how many parameters, which of them are lent lists, how many slots, the body -/
structure FDef where
  par : Nat
  lent : List Nat
  names : List String
  body : Ss
/-- handing over: for each parameter its operand -/
def handOver (ρ : Env) (lent : List Nat) : Nat → List Val → Option (List Arg)
  | _, [] => some []
  | j, v :: vs => match handOver ρ lent (j + 1) vs with
    | none => none
    | some as => if lent.contains j then (match v with
        | .own i => (match slot ρ i with
          | .ow xs => some (.io xs :: as)
          | .io xs => some (.io xs :: as)
          | _ => none)
        | _ => none) else match look ρ v with
      | some d => some (.fz d :: as)
      | none => none
/-- the slots whose lists are lent, in the parameters' sequence -/
def lentAt (lent : List Nat) : Nat → List Val → List Nat
  | _, [] => []
  | j, v :: vs => match v with
    | .own i => if lent.contains j then i :: lentAt lent (j + 1) vs else lentAt lent (j + 1) vs
    | _ => lentAt lent (j + 1) vs
/-- the slots whose lists are shown -/
def shownAt (ρ : Env) (lent : List Nat) : Nat → List Val → List Nat
  | _, [] => []
  | j, v :: vs => match v with
    | .own i => if lent.contains j then shownAt ρ lent (j + 1) vs else (match slot ρ i with
      | .fz _ => shownAt ρ lent (j + 1) vs
      | _ => i :: shownAt ρ lent (j + 1) vs)
    | _ => shownAt ρ lent (j + 1) vs
def putBack : Env → List Nat → List (List D) → Option Env
  | ρ, [], [] => some ρ
  | ρ, i :: is, xs :: xss => match slot ρ i with
    | .ow _ => putBack (ρ.set i (.ow xs)) is xss
    | .io _ => putBack (ρ.set i (.io xs)) is xss
    | _ => none
  | _, _, _ => none
def immV : Val → Bool
  | .d x => imm x
  | .fr xs => immL xs
  | .own _ => false
def callV (call : CallT) (lentOf : String → Option (List Nat)) (f : String) (ρ : Env) (vs : List Val) : Res (Val × Env) :=
  match lentOf f with
  | none => .bad
  | some lent => match handOver ρ lent 0 vs with
    | none => .bad
    | some as =>
      if (lentAt lent 0 vs).Nodup ∧ ∀ i ∈ shownAt ρ lent 0 vs, i ∉ lentAt lent 0 vs then match call f as with
        | .bad => .bad
        | .ex cn v _ => if (lentAt lent 0 vs).isEmpty && ((shownAt ρ lent 0 vs).isEmpty || imm v) then .ex cn v ρ else .bad
        | .ok r => match putBack ρ (lentAt lent 0 vs) r.2 with
          | none => .bad
          | some ρ1 => if (shownAt ρ lent 0 vs).isEmpty || (immV r.1 && r.2.all immL) then .ok (r.1, ρ1) else .bad
      else .bad

/-! ### the walk -/
def storeN (ρ : Env) (i : Nat) (d : D) : Option Env := match slot ρ i with
  | .io _ => none
  | _ => if i < ρ.length then some (ρ.set i (.fz d)) else none
def storeAll (ρ : Env) : List Nat → List D → Option Env
  | [], [] => some ρ
  | i :: is, d :: ds => match storeN ρ i d with
    | none => none
    | some ρ1 => storeAll ρ1 is ds
  | _, _ => none
def storeTg (ρ : Env) : Tg → D → Option Env
  | .nm i, d => storeN ρ i d
  | .tp is, .tuple ds => if is.length = ds.length then storeAll ρ is ds else none
  | .tp _, _ => none
def wipeE (ρ : Env) : List Nat → Env
  | [] => ρ
  | i :: is => (wipeE ρ is).set i .un
/-- behind a comprehension: its own names are what they were -/
def restore (ρ ρ' : Env) : List Nat → Env
  | [] => ρ'
  | i :: is => (restore ρ ρ' is).set i (slot ρ i)
/-- a comprehension's turns -/
def turns (tg : Tg) (own : List Nat) (test : Env → Res (Bool × Env)) (elt : Env → Res (Val × Env)) : List D → Env → List D → Res (List D × Env)
  | [], ρ, acc => .ok (acc, ρ)
  | x :: xs, ρ, acc => (Res.need (storeTg ρ tg x)).bind fun ρ1 => (test ρ1).bind fun r =>
    if r.1 then (elt r.2).bind fun r2 => (Res.need (alias1 r2.2 r2.1)).bind fun r3 => turns tg own test elt xs (wipeE r3.2 own) (acc ++ [r3.1])
    else turns tg own test elt xs (wipeE r.2 own) acc
/-- two sources, one within the other -/
def turns2 (tg : Tg) (own : List Nat) (src1 : Env → Res (List D × Env)) (tg1 : Tg) (own1 : List Nat) (elt : Env → Res (Val × Env)) : List D → Env → List D → Res (List D × Env)
  | [], ρ, acc => .ok (acc, ρ)
  | x :: xs, ρ, acc => (Res.need (storeTg ρ tg x)).bind fun ρ1 => (src1 ρ1).bind fun r => (turns tg1 own1 (fun ρ2 => .ok (true, ρ2)) elt r.1 (wipeE r.2 own1) acc).bind fun q => turns2 tg own src1 tg1 own1 elt xs (wipeE q.2 own) q.1
/-- no exception leaves a comprehension -/
def noEx {α : Type} : Res α → Res α
  | .ex _ _ _ => .bad
  | r => r
@[simp] theorem noEx_ok {α : Type} (a : α) : noEx (.ok a) = .ok a := rfl
@[simp] theorem noEx_bad {α : Type} : noEx (.bad : Res α) = .bad := rfl
/-- the operand, settled -/
def opd (r : Res (Val × Env)) : Res (Val × Env) := r.bind fun q => .ok (settle q)
def twoD (r : Res (Val × Env)) (b : Env → Res (Val × Env)) (f : D → D → Res Val) : Res (Val × Env) :=
  (opd r).bind fun x => (opd (b x.2)).bind fun y => (Res.need (look y.2 x.1)).bind fun u => (Res.need (look y.2 y.1)).bind fun v => (f u v).bind fun z => .ok (z, y.2)
def oneD (r : Res (Val × Env)) (f : D → Res Val) : Res (Val × Env) :=
  (opd r).bind fun x => (Res.need (look x.2 x.1)).bind fun u => (f u).bind fun z => .ok (z, x.2)
def asInt : Val → Option Int
  | .d (.int i) => some i
  | _ => none
def asBool : Val → Option Bool
  | .d (.bool b) => some b
  | _ => none
/-- the list of a slot is changed -/
def change (ρ : Env) (i : Nat) (f : List D → Option (List D)) : Option Env := match slot ρ i with
  | .ow xs => (f xs).map fun ys => ρ.set i (.ow ys)
  | .io xs => (f xs).map fun ys => ρ.set i (.io ys)
  | _ => none
/-- a range's numbers as a list or a tuple -/
def rgVal (tup : Bool) (xs : List D) : Val := if tup then .d (.tuple xs) else .fr xs
def rgList (i j : Int) : List D := (List.range (j - i).toNat).map fun (k : Nat) => .int (i + k)
section
variable (call : CallT) (lentOf : String → Option (List Nat))
mutual
def evE : E → Env → Res (Val × Env)
  | .nm i, ρ => match slot ρ i with
    | .un => .bad
    | .fz d => .ok (.d d, ρ)
    | _ => .ok (.own i, ρ)
  | .c d, ρ => .ok (.d d, ρ)
  | .tup es, ρ => (evEs es ρ).bind fun r => (Res.need (aliasL r.2 r.1)).bind fun q => if fits q.1.length then .ok (.d (.tuple q.1), q.2) else .bad
  | .lst es, ρ => (evEs es ρ).bind fun r => (Res.need (aliasL r.2 r.1)).bind fun q => if fits q.1.length then .ok (.fr q.1, q.2) else .bad
  | .bin op a b, ρ => twoD (evE a ρ) (fun ρ => evE b ρ) (binV op)
  | .neg a, ρ => oneD (evE a ρ) negV
  | .not a, ρ => oneD (evE a ρ) fun x => (truthD x).bind fun b => .ok (.d (.bool (!b)))
  | .and a b, ρ => (evE a ρ).bind fun r => (Res.need (asBool r.1)).bind fun k => if k then evE b r.2 else .ok (.d (.bool false), r.2)
  | .or a b, ρ => (evE a ρ).bind fun r => (Res.need (asBool r.1)).bind fun k => if k then .ok (.d (.bool true), r.2) else evE b r.2
  | .cmp op a b, ρ => twoD (evE a ρ) (fun ρ => evE b ρ) fun x y => (cmpV op x y).bind fun k => .ok (.d (.bool k))
  | .chain op op2 a b c, ρ => (opd (evE a ρ)).bind fun x => (opd (evE b x.2)).bind fun y => (Res.need (look y.2 x.1)).bind fun u => (Res.need (look y.2 y.1)).bind fun v => (cmpV op u v).bind fun k =>
      if k then (opd (evE c y.2)).bind fun z => (Res.need (look z.2 y.1)).bind fun v => (Res.need (look z.2 z.1)).bind fun w => (cmpV op2 v w).bind fun k => .ok (.d (.bool k), z.2) else .ok (.d (.bool false), y.2)
  | .isN a, ρ => oneD (evE a ρ) fun x => .ok (.d (.bool (isNoneD x)))
  | .notN a, ρ => oneD (evE a ρ) fun x => .ok (.d (.bool (!isNoneD x)))
  | .ife c a b, ρ => (evT c ρ).bind fun r => if r.1 then evE a r.2 else evE b r.2
  | .ix a b, ρ => twoD (evE a ρ) (fun ρ => evE b ρ) ixV
  | .sl00 a, ρ => oneD (evE a ρ) fun x => slV x none none
  | .sl10 a lo, ρ => (opd (evE a ρ)).bind fun r => (evE lo r.2).bind fun l => (Res.need (asInt l.1)).bind fun i => (Res.need (look l.2 r.1)).bind fun x => (slV x (some i) none).bind fun v => .ok (v, l.2)
  | .sl01 a hi, ρ => (opd (evE a ρ)).bind fun r => (evE hi r.2).bind fun l => (Res.need (asInt l.1)).bind fun i => (Res.need (look l.2 r.1)).bind fun x => (slV x none (some i)).bind fun v => .ok (v, l.2)
  | .sl11 a lo hi, ρ => (opd (evE a ρ)).bind fun r => (evE lo r.2).bind fun l => (Res.need (asInt l.1)).bind fun i => (evE hi l.2).bind fun h => (Res.need (asInt h.1)).bind fun j =>
      (Res.need (look h.2 r.1)).bind fun x => (slV x (some i) (some j)).bind fun v => .ok (v, h.2)
  | .rev a, ρ => oneD (evE a ρ) revV
  | .call f es, ρ => (evEs es ρ).bind fun r => callV call lentOf f r.2 r.1
  | .callk f es ks names perm, ρ => (evEs es ρ).bind fun r => (evEs ks r.2).bind fun q => (Res.need (perm.mapM fun i => (r.1 ++ q.1)[i]?)).bind fun vs =>
      if q.1.length = names.length then callV call lentOf f q.2 vs else .bad
  | .bi b es, ρ => (evEs es ρ).bind fun r => (Res.need (lookL r.2 r.1)).bind fun ds => (biV b ds).bind fun v => .ok (v, r.2)
  | .isi a t, ρ => oneD (evE a ρ) fun x => .ok (.d (.bool (isTy t x)))
  | .mut m i es, ρ => if isOwn (slot ρ i) then (evEs es ρ).bind fun r => (Res.need (aliasL r.2 r.1)).bind fun q => (Res.need (mtV m (listOf (slot q.2 i)) q.1)).bind fun o =>
      (Res.need (change q.2 i fun _ => some o.2)).bind fun ρ1 => .ok (.d o.1, ρ1) else .bad
  | .comp elt tg src own, ρ => (evSrc src ρ).bind fun r =>
      (noEx (turns tg own (fun ρ1 => .ok (true, ρ1)) (fun ρ1 => opd (evE elt ρ1)) r.1 (wipeE r.2 own) [])).bind fun q => .ok (.fr q.1, restore r.2 q.2 own)
  | .compif elt tg src cond own, ρ => (evSrc src ρ).bind fun r =>
      (noEx (turns tg own (fun ρ1 => evT cond ρ1) (fun ρ1 => opd (evE elt ρ1)) r.1 (wipeE r.2 own) [])).bind fun q => .ok (.fr q.1, restore r.2 q.2 own)
  | .comp2 elt tg src tg1 src1 own own1, ρ => (evSrc src ρ).bind fun r =>
      (noEx (turns2 tg own (fun ρ1 => evSrc src1 ρ1) tg1 own1 (fun ρ1 => opd (evE elt ρ1)) r.1 (wipeE r.2 own) [])).bind fun q => if fits q.1.length then .ok (.fr q.1, restore r.2 q.2 own) else .bad
  | .isi2 a t t2, ρ => oneD (evE a ρ) fun x => .ok (.d (.bool (isTy t x || isTy t2 x)))
  | .lenset a, ρ => oneD (evE a ρ) lenSetV
  | .sortset a, ρ => oneD (evE a ρ) sortSetV
  | .rgl1 tup a, ρ => (evE a ρ).bind fun r => (Res.need (asInt r.1)).bind fun j => if rgFits 0 j then .ok (rgVal tup (rgList 0 j), r.2) else .bad
  | .rgl2 tup a b, ρ => (evE a ρ).bind fun r => (Res.need (asInt r.1)).bind fun i => (evE b r.2).bind fun q => (Res.need (asInt q.1)).bind fun j => if rgFits i j then .ok (rgVal tup (rgList i j), q.2) else .bad
def evT : T → Env → Res (Bool × Env)
  | .not a, ρ => (evT a ρ).bind fun r => .ok (!r.1, r.2)
  | .and a b, ρ => (evT a ρ).bind fun r => if r.1 then evT b r.2 else .ok (false, r.2)
  | .or a b, ρ => (evT a ρ).bind fun r => if r.1 then .ok (true, r.2) else evT b r.2
  | .val e, ρ => (opd (evE e ρ)).bind fun r => (Res.need (look r.2 r.1)).bind fun x => (truthD x).bind fun b => .ok (b, r.2)
def evEs : Es → Env → Res (List Val × Env)
  | .nil, ρ => .ok ([], ρ)
  | .cons e es, ρ => (opd (evE e ρ)).bind fun r => (evEs es r.2).bind fun q => .ok (r.1 :: q.1, q.2)
def evSrc : Src → Env → Res (List D × Env)
  | .seq e, ρ => (opd (evE e ρ)).bind fun r => (Res.need (alias1 r.2 r.1)).bind fun q => (Res.need (seqOf q.1)).bind fun xs => .ok (xs, q.2)
  | .zip a b, ρ => (opd (evE a ρ)).bind fun r => (opd (evE b r.2)).bind fun q =>
    (Res.need (aliasL q.2 [r.1, q.1])).bind fun z => (Res.need (zipD z.1)).bind fun xs => .ok (xs, z.2)
  | .enum e, ρ => (opd (evE e ρ)).bind fun r => (Res.need (alias1 r.2 r.1)).bind fun q => (Res.need (enumD q.1)).bind fun xs => .ok (xs, q.2)
  | .rng1 a, ρ => (evE a ρ).bind fun r => (Res.need (asInt r.1)).bind fun j => if In62 j then .ok ((List.range j.toNat).map fun (k : Nat) => .int k, r.2) else .bad
  | .rng2 a b, ρ => (evE a ρ).bind fun r => (evE b r.2).bind fun q => (Res.need (asInt r.1)).bind fun i => (Res.need (asInt q.1)).bind fun j =>
    if rgFits i j then .ok ((List.range (j - i).toNat).map fun (k : Nat) => .int (i + k), q.2) else .bad
end

/-! ### statements -/
inductive Out where
  | nx (ρ : Env)
  | ret (v : Val) (ρ : Env)
  | bk (ρ : Env)
  | ct (ρ : Env)
/-- a name is given a value -/
def storeV (ρ : Env) (i : Nat) (keep : Bool) : Val → Option Env
  | .fr xs => if i < ρ.length then some (ρ.set i (if keep then .ow xs else .fz (.list xs))) else none
  | v => match alias1 ρ v with
    | some (d, ρ1) => if i < ρ1.length then some (ρ1.set i (.fz d)) else none
    | none => none
def store (ρ : Env) (i : Nat) (keep : Bool) (v : Val) : Option Env := match slot ρ i with
  | .io _ => none
  | _ => storeV ρ i keep v
def setAt (j : Int) (d : D) (xs : List D) : Option (List D) := (ixN xs.length j).map fun k => xs.set k d
def pairOf : D → Option (D × D)
  | .tuple [x, y] => some (x, y)
  | _ => none
/-- an item of a slot's list -/
def ixL (s : Slot) (j : Int) : Option D := match s with
  | .ow xs => atI xs j
  | .io xs => atI xs j
  | _ => none
/-- the sum of two numbers put back into a list -/
def augI : Operator → D → D → Res D
  | .Add, .int i, .int j => .ok (.int (i + j))
  | .Sub, .int i, .int j => .ok (.int (i - j))
  | _, _, _ => .bad
def forTurns (tg : Tg) (body : Env → Res Out) : List D → Env → Res Out
  | [], ρ => .ok (.nx ρ)
  | x :: xs, ρ => (Res.need (storeTg ρ tg x)).bind fun ρ1 => (body ρ1).bind fun o => match o with
    | .nx ρ2 => forTurns tg body xs ρ2
    | .ct ρ2 => forTurns tg body xs ρ2
    | .bk ρ2 => .ok (.nx ρ2)
    | .ret v ρ2 => .ok (.ret v ρ2)
/-- operands of one's own are frozen, new lists stay -/
def alias2 (ρ : Env) : Val → Option (Val × Env)
  | .fr xs => some (.fr xs, ρ)
  | v => match alias1 ρ v with
    | some (d, ρ1) => some (.d d, ρ1)
    | none => none
def aliasM (ρ : Env) : List Val → Option (List Val × Env)
  | [] => some ([], ρ)
  | v :: vs => match alias2 ρ v with
    | none => none
    | some (d, ρ1) => match aliasM ρ1 vs with
      | none => none
      | some (ds, ρ2) => some (d :: ds, ρ2)
def storeM (ρ : Env) : List (Nat × Bool) → List Val → Option Env
  | [], [] => some ρ
  | (i, keep) :: is, v :: vs => match store ρ i keep v with
    | none => none
    | some ρ1 => storeM ρ1 is vs
  | _, _ => none
/-- values as they come, unsettled -/
def evU : Es → Env → Res (List Val × Env)
  | .nil, ρ => .ok ([], ρ)
  | .cons e es, ρ => (evE call lentOf e ρ).bind fun r => (evU es r.2).bind fun q => .ok (r.1 :: q.1, q.2)
def whileTurns (test : Env → Res (Bool × Env)) (body : Env → Res Out) : Nat → Env → Res Out
  | 0, _ => .bad
  | k + 1, ρ => (test ρ).bind fun r => if r.1 then (body r.2).bind fun o => match o with
    | .nx ρ2 => whileTurns test body k ρ2
    | .ct ρ2 => whileTurns test body k ρ2
    | .bk ρ2 => .ok (.nx ρ2)
    | .ret v ρ2 => .ok (.ret v ρ2) else .ok (.nx r.2)
/-- more turns than any loop here takes -/
def wBound : Nat := 1000000
mutual
def evS : S → Env → Res Out
  | .asg i keep e, ρ => (evE call lentOf e ρ).bind fun r => (Res.need (store r.2 i keep r.1)).bind fun ρ1 => .ok (.nx ρ1)
  | .asgT tg e, ρ => (opd (evE call lentOf e ρ)).bind fun r => (Res.need (alias1 r.2 r.1)).bind fun q => (Res.need (storeTg q.2 tg q.1)).bind fun ρ1 => .ok (.nx ρ1)
  | .mul is es, ρ => (evU call lentOf es ρ).bind fun r => (Res.need (aliasM r.2 r.1)).bind fun q => (Res.need (storeM q.2 is q.1)).bind fun ρ1 => .ok (.nx ρ1)
  | .setix i ix e, ρ => (opd (evE call lentOf e ρ)).bind fun r => (Res.need (alias1 r.2 r.1)).bind fun q => if isOwn (slot q.2 i) then (evE call lentOf ix q.2).bind fun l => (Res.need (asInt l.1)).bind fun j =>
      (Res.need (change l.2 i (setAt j q.1))).bind fun ρ1 => .ok (.nx ρ1) else .bad
  | .swapix i ix ix2 e, ρ => (opd (evE call lentOf e ρ)).bind fun r => (Res.need (alias1 r.2 r.1)).bind fun q => (Res.need (pairOf q.1)).bind fun uv => if isOwn (slot q.2 i) then (evE call lentOf ix q.2).bind fun l => (Res.need (asInt l.1)).bind fun j =>
      (Res.need (change l.2 i (setAt j uv.1))).bind fun ρ1 => (evE call lentOf ix2 ρ1).bind fun l2 => (Res.need (asInt l2.1)).bind fun j2 => (Res.need (change l2.2 i (setAt j2 uv.2))).bind fun ρ2 => .ok (.nx ρ2) else .bad
  | .aug i op e, ρ => match slot ρ i with
    | .fz x => (opd (evE call lentOf e ρ)).bind fun r => (Res.need (look r.2 r.1)).bind fun y => (augV op x y).bind fun z => (Res.need (store r.2 i false z)).bind fun ρ1 => .ok (.nx ρ1)
    | _ => .bad
  | .augix i ix op e, ρ => if isOwn (slot ρ i) then (evE call lentOf ix ρ).bind fun l => (Res.need (asInt l.1)).bind fun j => (Res.need (ixL (slot l.2 i) j)).bind fun x =>
      (opd (evE call lentOf e l.2)).bind fun r => (Res.need (look r.2 r.1)).bind fun y => (augI op x y).bind fun d =>
      (Res.need (change r.2 i (setAt j d))).bind fun ρ1 => .ok (.nx ρ1) else .bad
  | .ex e, ρ => (evE call lentOf e ρ).bind fun r => .ok (.nx r.2)
  | .ret e, ρ => (evE call lentOf e ρ).bind fun r => .ok (.ret r.1 r.2)
  | .retN, ρ => .ok (.ret (.d .none) ρ)
  | .ife c a b, ρ => (evT call lentOf c ρ).bind fun r => if r.1 then evSs a r.2 else evSs b r.2
  | .for_ tg src body, ρ => (evSrc call lentOf src ρ).bind fun r => forTurns tg (fun ρ1 => evSs body ρ1) r.1 r.2
  | .while_ c body, ρ => whileTurns (fun ρ1 => evT call lentOf c ρ1) (fun ρ1 => evSs body ρ1) wBound ρ
  | .pass, ρ => .ok (.nx ρ)
  | .never, _ => .bad
  | .brk, ρ => .ok (.bk ρ)
  | .cont, ρ => .ok (.ct ρ)
def evSs : Ss → Env → Res Out
  | .nil, ρ => .ok (.nx ρ)
  | .cons s ss, ρ => (evS s ρ).bind fun o => match o with
    | .nx ρ1 => evSs ss ρ1
    | o => .ok o
end
end

/-! ### a def, a program -/
def startE (fd : FDef) : Nat → List Arg → Env
  | _, [] => List.replicate (fd.names.length - fd.par) .un
  | j, .fz d :: as => .fz d :: startE fd (j + 1) as
  | j, .io xs :: as => .io xs :: startE fd (j + 1) as
def lentBack (ρ : Env) : List Nat → Option (List (List D))
  | [] => some []
  | i :: is => match slot ρ i with
    | .io xs => (lentBack ρ is).map (xs :: ·)
    | _ => none
def handBack (ρ : Env) : Val → Option Val
  | .own i => match slot ρ i with
    | .ow xs => some (.fr xs)
    | .fz d => some (.d d)
    | _ => none
  | v => some v
/-- the arguments fit: a lent list where one is lent, data elsewhere -/
def argsFit (lent : List Nat) : Nat → List Arg → Bool
  | _, [] => true
  | j, .io _ :: as => lent.contains j && argsFit lent (j + 1) as
  | j, .fz _ :: as => !lent.contains j && argsFit lent (j + 1) as
def runF (call : CallT) (lentOf : String → Option (List Nat)) (fd : FDef) (as : List Arg) : Res Ret :=
  if as.length = fd.par ∧ argsFit fd.lent 0 as = true then
    (evSs call lentOf fd.body (startE fd 0 as)).bind fun o => match o with
      | .ret v ρ => (Res.need (lentBack ρ fd.lent)).bind fun l => (Res.need (handBack ρ v)).bind fun z => .ok (z, l)
      | .nx ρ => (Res.need (lentBack ρ fd.lent)).bind fun l => .ok (.d .none, l)
      | _ => .bad
  else .bad
abbrev Prog := List (String × FDef)
def lentIn (P : Prog) (f : String) : Option (List Nat) := (P.lookup f).map (·.lent)
def callN (P : Prog) : Nat → CallT
  | 0, _, _ => .bad
  | n + 1, f, as => match P.lookup f with
    | none => .bad
    | some fd => runF (callN P n) (lentIn P) fd as
end PX
/-! PX, part b: how data lies in a heap, the states' relation. -/
namespace PX
open PySem PySem.Spec PyProof.Rows L2

/-! ### slots -/
theorem slot_set {ρ : Env} {i j : Nat} {s : Slot} : slot (ρ.set i s) j = if i = j ∧ j < ρ.length then s else slot ρ j := by
  unfold slot
  rw [List.getElem?_set]
  by_cases h : i = j
  · subst h
    by_cases h2 : i < ρ.length
    · simp [h2]
    · simp [h2]
  · simp [h]
theorem slot_lt {ρ : Env} {i : Nat} (h : slot ρ i ≠ .un) : i < ρ.length := by
  by_cases hi : i < ρ.length
  · exact hi
  · exact absurd (by unfold slot; rw [List.getElem?_eq_none (by omega)]; rfl) h
/-! ### data in a heap -/
abbrev Sm (H H' : Hp) : Prop := ∀ a o, H a = some o → H' a = some o
theorem Sm.refl (H : Hp) : Sm H H := fun _ _ h => h
theorem Sm.trans {H H1 H2 : Hp} (a : Sm H H1) (b : Sm H1 H2) : Sm H H2 := fun x o h => b x o (a x o h)
theorem Sm.upd {H : Hp} {p : Addr} {o : HO} (h : H p = none) : Sm H (upd H p o) := fun a u e => by
  rw [upd_ne (ne_of_none e h)]; exact e
theorem Sm.rd {H H' : Hp} {a : Addr} {u : HO} (e : Sm H H') (h : Rd H a u) : Rd H' a u := by
  rcases h with h | ⟨o, h⟩
  · exact .inl (e a _ h)
  · exact .inr ⟨o, e a _ h⟩
theorem Sm.sl {K : PySem.W.Frag} {H H' : Hp} {a : Addr} {xs : List V} (e : Sm H H') (h : SqL K H a xs) : SqL K H' a xs := by
  rcases h with h | h
  · exact .inl (e.rd h)
  · exact .inr h
theorem Sm.st {K : PySem.W.Frag} {H H' : Hp} {a : Addr} {xs : List V} (e : Sm H H') (h : SqT K H a xs) : SqT K H' a xs := by
  rcases h with h | h
  · exact .inl (e.rd h)
  · exact .inr h
/-- a list that stands, or the module's own list (its object as it is) -/
def SqP (K : PySem.W.Frag) (H : Hp) (a : Addr) (xs : List V) : Prop :=
  Rd H a (.lst xs) ∨ ∃ (its : List Value) (n : Nat), K.lookup a = some { cls := .type "list", data := .seq its.toArray n } ∧ its.length ≤ sizeLine ∧ Vals xs its
theorem SqP.sl {K : PySem.W.Frag} {H : Hp} {a : Addr} {xs : List V} (h : SqP K H a xs) : SqL K H a xs := by
  rcases h with h | ⟨its, n, h1, h2, h3⟩
  · exact .inl h
  · exact .inr ⟨_, its.toArray, n, h1, rfl, rfl, rfl, by simpa using h2, by simpa using h3⟩
theorem Sm.sp {K : PySem.W.Frag} {H H' : Hp} {a : Addr} {xs : List V} (e : Sm H H') (h : SqP K H a xs) : SqP K H' a xs := by
  rcases h with h | h
  · exact .inl (e.rd h)
  · exact .inr h
mutual
inductive Den (K : PySem.W.Frag) (F : Hp) : V → D → Prop
  | non : Den K F .non .none
  | bl (b : Bool) : Den K F (.bl b) (.bool b)
  | int (i : Int) : Den K F (.int i) (.int i)
  | str (x : Str) : Den K F (.str x) (.str x)
  | lst {a : Addr} {vs : List V} {xs : List D} : SqP K F a vs → DenL K F vs xs → Den K F (.ref a) (.list xs)
  | tup {a : Addr} {vs : List V} {xs : List D} : SqT K F a vs → DenL K F vs xs → Den K F (.ref a) (.tuple xs)
inductive DenL (K : PySem.W.Frag) (F : Hp) : List V → List D → Prop
  | nil : DenL K F [] []
  | cons {v : V} {vs : List V} {x : D} {xs : List D} : Den K F v x → DenL K F vs xs → DenL K F (v :: vs) (x :: xs)
end
mutual
theorem Den.mono {K : PySem.W.Frag} {F F' : Hp} (e : Sm F F') : ∀ {v : V} {x : D}, Den K F v x → Den K F' v x
  | _, _, .non => .non
  | _, _, .bl b => .bl b
  | _, _, .int i => .int i
  | _, _, .str x => .str x
  | _, _, .lst h1 h2 => .lst (e.sp h1) (DenL.mono e h2)
  | _, _, .tup h1 h2 => .tup (e.st h1) (DenL.mono e h2)
theorem DenL.mono {K : PySem.W.Frag} {F F' : Hp} (e : Sm F F') : ∀ {vs : List V} {xs : List D}, DenL K F vs xs → DenL K F' vs xs
  | _, _, .nil => .nil
  | _, _, .cons h1 h2 => .cons (Den.mono e h1) (DenL.mono e h2)
end
mutual
/-- data without lists leans on tuples alone -/
theorem Den.imm {K : PySem.W.Frag} {F F' : Hp} (e : ∀ a xs, SqT K F a xs → SqT K F' a xs) : ∀ {v : V} {x : D}, Den K F v x → imm x = true → Den K F' v x
  | _, _, .non, _ => .non
  | _, _, .bl b, _ => .bl b
  | _, _, .int i, _ => .int i
  | _, _, .str x, _ => .str x
  | _, _, .lst h1 h2, h => by simp [PX.imm] at h
  | _, _, .tup h1 h2, h => .tup (e _ _ h1) (DenL.imm e h2 (by simpa [PX.imm] using h))
theorem DenL.imm {K : PySem.W.Frag} {F F' : Hp} (e : ∀ a xs, SqT K F a xs → SqT K F' a xs) : ∀ {vs : List V} {xs : List D}, DenL K F vs xs → immL xs = true → DenL K F' vs xs
  | _, _, .nil, _ => .nil
  | _, _, .cons h1 h2, h => by
    simp only [immL, Bool.and_eq_true] at h
    exact .cons (Den.imm e h1 h.1) (DenL.imm e h2 h.2)
end
mutual
theorem Den.dp {K : PySem.W.Frag} {F : Hp} : ∀ {v : V} {x : D}, Den K F v x → Dp K F v x
  | _, _, .non => .non
  | _, _, .bl b => .bl b
  | _, _, .int i => .int i
  | _, _, .str x => .str x
  | _, _, .lst h1 h2 => .lst h1.sl (DenL.dp h2)
  | _, _, .tup h1 h2 => .tup h1 (DenL.dp h2)
theorem DenL.dp {K : PySem.W.Frag} {F : Hp} : ∀ {vs : List V} {xs : List D}, DenL K F vs xs → DpAll K F vs xs
  | _, _, .nil => .nil
  | _, _, .cons h1 h2 => .cons (Den.dp h1) (DenL.dp h2)
end
section
variable {K : PySem.W.Frag} {F : Hp}
theorem DenL.length : ∀ {vs : List V} {xs : List D}, DenL K F vs xs → vs.length = xs.length
  | _, _, .nil => rfl
  | _, _, .cons _ t => congrArg Nat.succ (DenL.length t)
theorem DenL.append : ∀ {vs ws : List V} {xs ys : List D}, DenL K F vs xs → DenL K F ws ys → DenL K F (vs ++ ws) (xs ++ ys)
  | _, _, _, _, .nil, h => h
  | _, _, _, _, .cons h t, h2 => .cons h (DenL.append t h2)
theorem DenL.get : ∀ {vs : List V} {xs : List D} {i : Nat} {x : D}, DenL K F vs xs → xs[i]? = some x → ∃ v, vs[i]? = some v ∧ Den K F v x
  | _, _, _, _, .nil, e => by simp at e
  | _, _, 0, _, .cons h _, e => by simp at e; subst e; exact ⟨_, rfl, h⟩
  | _, _, i + 1, x, .cons _ t, e => by
    obtain ⟨v, e1, e2⟩ := DenL.get (i := i) (x := x) t (by simpa using e)
    exact ⟨v, by simpa using e1, e2⟩
theorem DenL.drop : ∀ {vs : List V} {xs : List D} (n : Nat), DenL K F vs xs → DenL K F (vs.drop n) (xs.drop n)
  | _, _, 0, h => h
  | _, _, _ + 1, .nil => .nil
  | _, _, n + 1, .cons _ t => DenL.drop n t
theorem DenL.take : ∀ {vs : List V} {xs : List D} (n : Nat), DenL K F vs xs → DenL K F (vs.take n) (xs.take n)
  | _, _, 0, _ => .nil
  | _, _, _ + 1, .nil => .nil
  | _, _, n + 1, .cons h t => .cons h (DenL.take n t)
theorem DenL.set {v : V} {x : D} (h : Den K F v x) : ∀ {vs : List V} {xs : List D} (n : Nat), DenL K F vs xs → DenL K F (vs.set n v) (xs.set n x)
  | _, _, _, .nil => .nil
  | _, _, 0, .cons _ t => .cons h t
  | _, _, n + 1, .cons h1 t => .cons h1 (DenL.set h n t)
theorem DenL.eraseIdx : ∀ {vs : List V} {xs : List D}, DenL K F vs xs → ∀ n : Nat, DenL K F (vs.eraseIdx n) (xs.eraseIdx n)
  | _, _, .nil, _ => .nil
  | _, _, .cons h t, 0 => t
  | _, _, .cons h t, n + 1 => .cons h (DenL.eraseIdx t n)
theorem DenL.dropLast : ∀ {vs : List V} {xs : List D}, DenL K F vs xs → DenL K F vs.dropLast xs.dropLast
  | _, _, .nil => .nil
  | _, _, .cons h .nil => .nil
  | _, _, .cons h (.cons h2 t) => .cons h (DenL.dropLast (.cons h2 t))
theorem DenL.reverse {vs : List V} {xs : List D} (h : DenL K F vs xs) : DenL K F vs.reverse xs.reverse := by
  induction vs generalizing xs with
  | nil => cases h; exact .nil
  | cons v vs ih =>
    cases h with
    | cons h1 h2 =>
      rw [List.reverse_cons, List.reverse_cons]
      exact (ih h2).append (.cons h1 .nil)
theorem DenL.rep {vs : List V} {xs : List D} (h : DenL K F vs xs) : ∀ k : Nat, DenL K F (List.replicate k vs).flatten (List.replicate k xs).flatten
  | 0 => .nil
  | k + 1 => by
    rw [List.replicate_succ, List.replicate_succ, List.flatten_cons, List.flatten_cons]
    exact h.append (DenL.rep h k)
theorem DenL.cut {vs : List V} {xs : List D} (h : DenL K F vs xs) (lo hi : Option Int) : DenL K F (cutV vs lo hi) (cutD xs lo hi) := by
  unfold cutV cutD
  rw [h.length]
  exact (h.drop _).take _
theorem DenL.at_ {vs : List V} {xs : List D} (h : DenL K F vs xs) {i : Int} {x : D} (e : atI xs i = some x) : ∃ v, atI vs i = some v ∧ Den K F v x := by
  unfold atI at e ⊢
  rw [h.length]
  cases hj : ixN xs.length i with
  | none => rw [hj] at e; cases e
  | some j =>
    rw [hj] at e
    exact h.get e
theorem DenL.ints : ∀ {vs : List V} {xs : List D} {ns : List Int}, DenL K F vs xs → asInts xs = some ns → vs = ns.map V.int
  | _, _, _, .nil, e => by cases e; rfl
  | _, _, ns, .cons h t, e => by
    cases h with
    | int i =>
      rename_i xs
      simp only [asInts] at e
      cases hr : asInts xs with
      | none => rw [hr] at e; cases e
      | some ms =>
        rw [hr] at e
        cases e
        rw [DenL.ints t hr]
        rfl
    | _ => simp [asInts] at e
theorem DenL.bools : ∀ {vs : List V} {xs : List D} {ns : List Bool}, DenL K F vs xs → asBools xs = some ns → vs = ns.map V.bl
  | _, _, _, .nil, e => by cases e; rfl
  | _, _, ns, .cons h t, e => by
    cases h with
    | bl i =>
      rename_i xs
      simp only [asBools] at e
      cases hr : asBools xs with
      | none => rw [hr] at e; cases e
      | some ms =>
        rw [hr] at e
        cases e
        rw [DenL.bools t hr]
        rfl
    | _ => simp [asBools] at e
theorem Den.list {v : V} {xs : List D} (h : Den K F v (.list xs)) : ∃ a vs, v = .ref a ∧ SqP K F a vs ∧ DenL K F vs xs := by
  cases h with
  | lst h1 h2 => exact ⟨_, _, rfl, h1, h2⟩
theorem Den.tuple {v : V} {xs : List D} (h : Den K F v (.tuple xs)) : ∃ a vs, v = .ref a ∧ SqT K F a vs ∧ DenL K F vs xs := by
  cases h with
  | tup h1 h2 => exact ⟨_, _, rfl, h1, h2⟩
theorem Den.toInt {v : V} {i : Int} (h : Den K F v (.int i)) : v = .int i := by cases h; rfl
theorem Den.toBl {v : V} {i : Bool} (h : Den K F v (.bool i)) : v = .bl i := by cases h; rfl
theorem Den.toStr {v : V} {i : Str} (h : Den K F v (.str i)) : v = .str i := by cases h; rfl
theorem Den.toNon {v : V} (h : Den K F v .none) : v = .non := by cases h; rfl
end

/-! ### lengths -/
def HLen (K : PySem.W.Frag) (H : Hp) : Prop := (∀ a xs, SqL K H a xs → xs.length ≤ sizeLine) ∧ ∀ a xs, SqT K H a xs → xs.length ≤ sizeLine
theorem HLen.upd {K : PySem.W.Frag} {H : Hp} {p : Addr} {o : HO} (h : HLen K H) (hl : ∀ xs, o = .lst xs → xs.length ≤ sizeLine) (ht : ∀ xs, o = .tup xs → xs.length ≤ sizeLine) (hf : ∀ ob u, o ≠ .frz ob u) : HLen K (upd H p o) := by
  refine ⟨fun a xs q => ?_, fun a xs q => ?_⟩
  · rcases q with q | q
    · by_cases e : a = p
      · subst e
        rcases q with q | ⟨ob, q⟩
        · rw [upd_same] at q; cases q; exact hl _ rfl
        · rw [upd_same] at q; cases q; exact absurd rfl (hf _ _)
      · refine h.1 a xs (.inl ?_)
        rcases q with q | ⟨ob, q⟩
        · rw [upd_ne e] at q; exact .inl q
        · rw [upd_ne e] at q; exact .inr ⟨ob, q⟩
    · exact h.1 a xs (.inr q)
  · rcases q with q | q
    · by_cases e : a = p
      · subst e
        rcases q with q | ⟨ob, q⟩
        · rw [upd_same] at q; cases q; exact ht _ rfl
        · rw [upd_same] at q; cases q; exact absurd rfl (hf _ _)
      · refine h.2 a xs (.inl ?_)
        rcases q with q | ⟨ob, q⟩
        · rw [upd_ne e] at q; exact .inl q
        · rw [upd_ne e] at q; exact .inr ⟨ob, q⟩
    · exact h.2 a xs (.inr q)
theorem HLen.updL {K : PySem.W.Frag} {H : Hp} {p : Addr} {vs : List V} (h : HLen K H) (hl : vs.length ≤ sizeLine) : HLen K (L2.upd H p (.lst vs)) :=
  h.upd (fun _ e => by cases e; exact hl) (fun _ e => by cases e) (fun _ _ e => by cases e)
theorem HLen.updT {K : PySem.W.Frag} {H : Hp} {p : Addr} {vs : List V} (h : HLen K H) (hl : vs.length ≤ sizeLine) : HLen K (L2.upd H p (.tup vs)) :=
  h.upd (fun _ e => by cases e) (fun _ e => by cases e; exact hl) (fun _ _ e => by cases e)

/-! ### the states' relation -/
/-- a def's run: the heap at its entry, what of it is data for it, the lent lists' places -/
structure FC where
  H0 : Hp
  B : Hp
  io : List Addr
def owned (σ : St) (ρ : Env) (a : Addr) : Prop := ∃ i, isOwn (slot ρ i) = true ∧ σ[i]? = some (some (.ref a))
structure SR (K : PySem.W.Frag) (c : FC) (F H : Hp) (σ : St) (ρ : Env) : Prop where
  len : σ.length = ρ.length
  exB : Sm c.B F
  dom : ∀ a o, F a = some o → c.B a = some o ∨ c.H0 a = none
  exF : Sm F H
  keep : ∀ a o, c.H0 a = some o → a ∉ c.io → H a = some o
  iol : ∀ a ∈ c.io, c.H0 a ≠ none ∧ ∃ vs, H a = some (.lst vs)
  hl : HLen K H
  fz : ∀ i d, slot ρ i = .fz d → ∃ v, σ[i]? = some (some v) ∧ Den K F v d
  ow : ∀ i xs, slot ρ i = .ow xs → ∃ a vs, σ[i]? = some (some (.ref a)) ∧ H a = some (.lst vs) ∧ F a = none ∧ c.H0 a = none ∧ DenL K F vs xs
  io : ∀ i xs, slot ρ i = .io xs → ∃ a vs, σ[i]? = some (some (.ref a)) ∧ H a = some (.lst vs) ∧ F a = none ∧ a ∈ c.io ∧ DenL K F vs xs
  sep : ∀ i j a, isOwn (slot ρ i) = true → isOwn (slot ρ j) = true → σ[i]? = some (some (.ref a)) → σ[j]? = some (some (.ref a)) → i = j
/-- from a state to a later one of the same def -/
structure Ext (σ : St) (ρ : Env) (F H : Hp) (ρ' : Env) (F' H' : Hp) : Prop where
  exF : Sm F F'
  grow : ∀ a, F' a ≠ none → F a ≠ none ∨ H a = none ∨ owned σ ρ a
  keepH : ∀ a o, H a = some o → ¬ owned σ ρ a → H' a = some o
  alive : ∀ a, H' a = none → H a = none
  own : ∀ a, owned σ ρ' a → owned σ ρ a
theorem Ext.refl {σ : St} {ρ : Env} {F H : Hp} : Ext σ ρ F H ρ F H := ⟨Sm.refl F, fun a h => .inl h, fun _ _ h _ => h, fun _ h => h, fun _ h => h⟩
section
variable {K : PySem.W.Frag} {c : FC} {F F1 F2 H H1 H2 : Hp} {σ : St} {ρ ρ1 ρ2 : Env}
theorem Ext.trans (e1 : Ext σ ρ F H ρ1 F1 H1) (e2 : Ext σ ρ1 F1 H1 ρ2 F2 H2) : Ext σ ρ F H ρ2 F2 H2 where
  exF := e1.exF.trans e2.exF
  grow := fun a h => by
    rcases e2.grow a h with h | h | h
    · exact e1.grow a h
    · exact .inr (.inl (e1.alive a h))
    · exact .inr (.inr (e1.own a h))
  keepH := fun a o h n => e2.keepH a o (e1.keepH a o h n) fun z => n (e1.own a z)
  alive := fun a h => e1.alive a (e2.alive a h)
  own := fun a h => e1.own a (e2.own a h)
theorem SR.live (S : SR K c F H σ ρ) {a : Addr} (h : owned σ ρ a) : ∃ vs, H a = some (.lst vs) := by
  obtain ⟨i, hi, hs⟩ := h
  cases hk : slot ρ i with
  | un => rw [hk] at hi; cases hi
  | fz d => rw [hk] at hi; cases hi
  | ow xs =>
    obtain ⟨a', vs, e1, e2, _⟩ := S.ow i xs hk
    rw [hs] at e1; cases e1; exact ⟨vs, e2⟩
  | io xs =>
    obtain ⟨a', vs, e1, e2, _⟩ := S.io i xs hk
    rw [hs] at e1; cases e1; exact ⟨vs, e2⟩
theorem SR.ownF (S : SR K c F H σ ρ) {a : Addr} (h : owned σ ρ a) : F a = none := by
  obtain ⟨i, hi, hs⟩ := h
  cases hk : slot ρ i with
  | un => rw [hk] at hi; cases hi
  | fz d => rw [hk] at hi; cases hi
  | ow xs =>
    obtain ⟨a', vs, e1, _, e2, _⟩ := S.ow i xs hk
    rw [hs] at e1; cases e1; exact e2
  | io xs =>
    obtain ⟨a', vs, e1, _, e2, _⟩ := S.io i xs hk
    rw [hs] at e1; cases e1; exact e2
theorem SR.freshF (S : SR K c F H σ ρ) {p : Addr} (h : H p = none) : F p = none := by
  cases e : F p with
  | none => rfl
  | some o => rw [S.exF p o e] at h; cases h
theorem SR.fresh0 (S : SR K c F H σ ρ) {p : Addr} (h : H p = none) : c.H0 p = none := by
  cases e : c.H0 p with
  | none => rfl
  | some o =>
    by_cases hi : p ∈ c.io
    · obtain ⟨_, vs, e2⟩ := S.iol p hi
      rw [e2] at h; cases h
    · rw [S.keep p o e hi] at h; cases h
theorem SR.freshO (S : SR K c F H σ ρ) {p : Addr} (h : H p = none) : ¬ owned σ ρ p := fun z => by
  obtain ⟨vs, e⟩ := S.live z
  rw [e] at h; cases h
/-- a new object is laid -/
theorem SR.laid (S : SR K c F H σ ρ) {p : Addr} {o : HO} (h : H p = none) (hz : HLen K (upd H p o)) : SR K c F (upd H p o) σ ρ where
  len := S.len
  exB := S.exB
  dom := S.dom
  exF := S.exF.trans (Sm.upd h)
  keep := fun a u e n => Sm.upd h a u (S.keep a u e n)
  iol := fun a ha => let ⟨m, vs, e⟩ := S.iol a ha; ⟨m, vs, Sm.upd h a _ e⟩
  hl := hz
  fz := S.fz
  ow := fun i xs e => let ⟨a, vs, h1, h2, h3⟩ := S.ow i xs e; ⟨a, vs, h1, Sm.upd h a _ h2, h3⟩
  io := fun i xs e => let ⟨a, vs, h1, h2, h3⟩ := S.io i xs e; ⟨a, vs, h1, Sm.upd h a _ h2, h3⟩
  sep := S.sep
theorem Ext.laid {p : Addr} {o : HO} (h : H p = none) : Ext σ ρ F H ρ F (upd H p o) := ⟨Sm.refl F, fun a h => .inl h, fun a u e _ => Sm.upd h a u e, fun a e => by
  by_cases q : a = p
  · rw [q]; exact h
  · rw [upd_ne q] at e; exact e, fun _ h => h⟩
/-- an object that nobody holds becomes data -/
theorem SR.take (S : SR K c F H σ ρ) {p : Addr} {o : HO} (h : H p = some o) (hF : F p = none) (h0 : c.H0 p = none) (n : ¬ owned σ ρ p) : SR K c (upd F p o) H σ ρ where
  len := S.len
  exB := S.exB.trans (Sm.upd hF)
  dom := fun a u e => by
    by_cases q : a = p
    · subst q; exact .inr h0
    · rw [upd_ne q] at e; exact S.dom a u e
  exF := fun a u e => by
    by_cases q : a = p
    · subst q; rw [upd_same] at e; cases e; exact h
    · rw [upd_ne q] at e; exact S.exF a u e
  keep := S.keep
  iol := S.iol
  hl := S.hl
  fz := fun i d e => let ⟨v, h1, h2⟩ := S.fz i d e; ⟨v, h1, h2.mono (Sm.upd hF)⟩
  ow := fun i xs e => by
    obtain ⟨a, vs, h1, h2, h3, h4, h5⟩ := S.ow i xs e
    refine ⟨a, vs, h1, h2, ?_, h4, h5.mono (Sm.upd hF)⟩
    rw [upd_ne (fun z => n (by rw [← z]; exact ⟨i, by rw [e]; rfl, h1⟩))]; exact h3
  io := fun i xs e => by
    obtain ⟨a, vs, h1, h2, h3, h4, h5⟩ := S.io i xs e
    refine ⟨a, vs, h1, h2, ?_, h4, h5.mono (Sm.upd hF)⟩
    rw [upd_ne (fun z => n (by rw [← z]; exact ⟨i, by rw [e]; rfl, h1⟩))]; exact h3
  sep := S.sep
theorem Ext.took {F0 H0 : Hp} {ρ0 : Env} (e : Ext σ ρ0 F0 H0 ρ F H) {p : Addr} {o : HO} (hF : F p = none) (hn : H0 p = none) : Ext σ ρ0 F0 H0 ρ (upd F p o) H where
  exF := e.exF.trans (Sm.upd hF)
  grow := fun a h => by
    by_cases q : a = p
    · subst q; exact .inr (.inl hn)
    · rw [upd_ne q] at h; exact e.grow a h
  keepH := e.keepH
  alive := e.alive
  own := e.own
/-- a slot's own list becomes data -/
theorem SR.freeze (S : SR K c F H σ ρ) {i : Nat} {xs : List D} (h : slot ρ i = .ow xs) : ∃ a vs, σ[i]? = some (some (.ref a)) ∧ H a = some (.lst vs) ∧ DenL K F vs xs ∧ F a = none ∧
    SR K c (upd F a (.lst vs)) H σ (ρ.set i (.fz (.list xs))) ∧ Ext σ ρ F H (ρ.set i (.fz (.list xs))) (upd F a (.lst vs)) H ∧ Den K (upd F a (.lst vs)) (.ref a) (.list xs) := by
  obtain ⟨a, vs, h1, h2, h3, h4, h5⟩ := S.ow i xs h
  have hi : i < ρ.length := slot_lt (by rw [h]; intro z; cases z)
  have sm : Sm F (upd F a (.lst vs)) := Sm.upd h3
  have ha : owned σ ρ a := ⟨i, by rw [h]; rfl, h1⟩
  have dn : Den K (upd F a (.lst vs)) (.ref a) (.list xs) := .lst (.inl (.inl upd_same)) (h5.mono sm)
  have ne : ∀ j, isOwn (slot (ρ.set i (.fz (.list xs))) j) = true → j ≠ i ∧ isOwn (slot ρ j) = true := fun j hj => by
    rw [slot_set] at hj
    by_cases q : i = j
    · subst q; rw [if_pos ⟨rfl, hi⟩] at hj; cases hj
    · rw [if_neg (fun z => q z.1)] at hj; exact ⟨fun z => q z.symm, hj⟩
  refine ⟨a, vs, h1, h2, h5, h3, ?_, ⟨sm, fun b hb => ?_, fun b o e _ => e, fun _ e => e, fun b ⟨j, hj, e⟩ => ⟨j, (ne j hj).2, e⟩⟩, dn⟩
  · refine ⟨by rw [List.length_set]; exact S.len, S.exB.trans sm, fun b o e => ?_, fun b o e => ?_, S.keep, S.iol, S.hl, fun j d e => ?_, fun j ys e => ?_, fun j ys e => ?_, fun j k b hj hk e1 e2 => S.sep j k b (ne j hj).2 (ne k hk).2 e1 e2⟩
    · by_cases q : b = a
      · subst q; exact .inr h4
      · rw [upd_ne q] at e; exact S.dom b o e
    · by_cases q : b = a
      · subst q; rw [upd_same] at e; cases e; exact h2
      · rw [upd_ne q] at e; exact S.exF b o e
    · rw [slot_set] at e
      by_cases q : i = j
      · subst q
        rw [if_pos ⟨rfl, hi⟩] at e
        cases e
        exact ⟨_, h1, dn⟩
      · rw [if_neg (fun z => q z.1)] at e
        obtain ⟨v, e1, e2⟩ := S.fz j d e
        exact ⟨v, e1, e2.mono sm⟩
    · have q := ne j (by rw [e]; rfl)
      rw [slot_set, if_neg (fun z => q.1 z.1.symm)] at e
      obtain ⟨b, ws, e1, e2, e3, e4, e5⟩ := S.ow j ys e
      refine ⟨b, ws, e1, e2, ?_, e4, e5.mono sm⟩
      rw [upd_ne (fun z => q.1 (S.sep j i a q.2 (by rw [h]; rfl) (by rw [← z]; exact e1) h1))]; exact e3
    · have q := ne j (by rw [e]; rfl)
      rw [slot_set, if_neg (fun z => q.1 z.1.symm)] at e
      obtain ⟨b, ws, e1, e2, e3, e4, e5⟩ := S.io j ys e
      refine ⟨b, ws, e1, e2, ?_, e4, e5.mono sm⟩
      rw [upd_ne (fun z => q.1 (S.sep j i a q.2 (by rw [h]; rfl) (by rw [← z]; exact e1) h1))]; exact e3
  · by_cases q : b = a
    · subst q; exact .inr (.inr ha)
    · rw [upd_ne q] at hb; exact .inl hb
end

/-! ### operands -/
/-- an operand: data, or the list of a slot -/
def OR (K : PySem.W.Frag) (F : Hp) (σ : St) (v : V) : Val → Prop
  | .d x => Den K F v x
  | .own i => σ[i]? = some (some v)
  | .fr _ => False
theorem OR.mono {K : PySem.W.Frag} {F F' : Hp} {σ : St} {v : V} (e : Sm F F') : ∀ {z : Val}, OR K F σ v z → OR K F' σ v z
  | .d _, h => Den.mono e h
  | .own _, h => h
inductive ORL (K : PySem.W.Frag) (F : Hp) (σ : St) : List V → List Val → Prop
  | nil : ORL K F σ [] []
  | cons {v : V} {vs : List V} {z : Val} {zs : List Val} : OR K F σ v z → ORL K F σ vs zs → ORL K F σ (v :: vs) (z :: zs)
theorem ORL.mono {K : PySem.W.Frag} {F F' : Hp} {σ : St} (e : Sm F F') : ∀ {vs : List V} {zs : List Val}, ORL K F σ vs zs → ORL K F' σ vs zs
  | _, _, .nil => .nil
  | _, _, .cons h t => .cons (h.mono e) (ORL.mono e t)
/-- a value just come, since the heap H00 -/
def VR (K : PySem.W.Frag) (c : FC) (σ : St) (ρ : Env) (F H H00 : Hp) (v : V) : Val → Prop
  | .d x => Den K F v x
  | .own i => σ[i]? = some (some v)
  | .fr xs => ∃ a vs, v = .ref a ∧ H a = some (.lst vs) ∧ F a = none ∧ c.H0 a = none ∧ H00 a = none ∧ DenL K F vs xs ∧ ¬ owned σ ρ a
section
variable {K : PySem.W.Frag} {c : FC} {F H : Hp} {σ : St} {ρ : Env}
/-- what an operand is, now -/
theorem SR.look (S : SR K c F H σ ρ) {v : V} {z : Val} {x : D} (h : OR K F σ v z) (e : look ρ z = some x) :
    Den K F v x ∨ ∃ a vs xs, x = .list xs ∧ v = .ref a ∧ H a = some (.lst vs) ∧ DenL K F vs xs := by
  cases z with
  | d y => cases e; exact .inl h
  | fr _ => exact h.elim
  | own i =>
    have e : slotD (slot ρ i) = some x := e
    have h : σ[i]? = some (some v) := h
    cases hk : slot ρ i with
    | un => rw [hk] at e; cases e
    | fz d =>
      rw [hk] at e; cases e
      obtain ⟨w, e1, e2⟩ := S.fz i _ hk
      rw [h] at e1; cases e1; exact .inl e2
    | ow xs =>
      rw [hk] at e; cases e
      obtain ⟨a, vs, e1, e2, _, _, e3⟩ := S.ow i xs hk
      rw [h] at e1; cases e1; exact .inr ⟨a, vs, xs, rfl, rfl, e2, e3⟩
    | io xs =>
      rw [hk] at e; cases e
      obtain ⟨a, vs, e1, e2, _, _, e3⟩ := S.io i xs hk
      rw [h] at e1; cases e1; exact .inr ⟨a, vs, xs, rfl, rfl, e2, e3⟩
theorem SR.lookH (S : SR K c F H σ ρ) {v : V} {z : Val} {x : D} (h : OR K F σ v z) (e : PX.look ρ z = some x) : Den K H v x := by
  rcases S.look h e with h | ⟨a, vs, xs, rfl, rfl, h1, h2⟩
  · exact h.mono S.exF
  · exact .lst (.inl (.inl h1)) (h2.mono S.exF)
theorem SR.lookL (S : SR K c F H σ ρ) {v : V} {z : Val} {xs : List D} (h : OR K F σ v z) (e : PX.look ρ z = some (.list xs)) : ∃ a vs, v = .ref a ∧ SqP K H a vs ∧ DenL K F vs xs := by
  rcases S.look h e with h | ⟨a, vs, ys, e, rfl, h1, h2⟩
  · obtain ⟨a, vs, rfl, h1, h2⟩ := h.list
    exact ⟨a, vs, rfl, S.exF.sp h1, h2⟩
  · cases e
    exact ⟨a, vs, rfl, .inl (.inl h1), h2⟩
theorem SR.lookT (S : SR K c F H σ ρ) {v : V} {z : Val} {xs : List D} (h : OR K F σ v z) (e : PX.look ρ z = some (.tuple xs)) : ∃ a vs, v = .ref a ∧ SqT K F a vs ∧ SqT K H a vs ∧ DenL K F vs xs := by
  rcases S.look h e with h | ⟨a, vs, ys, e, rfl, h1, h2⟩
  · obtain ⟨a, vs, rfl, h1, h2⟩ := h.tuple
    exact ⟨a, vs, rfl, h1, S.exF.st h1, h2⟩
  · cases e
theorem SR.lookI (S : SR K c F H σ ρ) {v : V} {z : Val} {i : Int} (h : OR K F σ v z) (e : PX.look ρ z = some (.int i)) : v = .int i := (S.lookH h e).toInt
/-- a new value settles -/
theorem SR.settle (S : SR K c F H σ ρ) {ρ0 : Env} {F0 H00 : Hp} (e : Ext σ ρ0 F0 H00 ρ F H) {v : V} {z : Val} (h : VR K c σ ρ F H H00 v z) :
    ∃ F', SR K c F' H σ (PX.settle (z, ρ)).2 ∧ Ext σ ρ0 F0 H00 (PX.settle (z, ρ)).2 F' H ∧ OR K F' σ v (PX.settle (z, ρ)).1 := by
  cases z with
  | d x => exact ⟨F, S, e, h⟩
  | own i => exact ⟨F, S, e, h⟩
  | fr xs =>
    obtain ⟨a, vs, rfl, h1, h2, h3, h4, h5, h6⟩ := h
    exact ⟨L2.upd F a (.lst vs), S.take h1 h2 h3 h6, e.took h2 h4, .lst (.inl (.inl upd_same)) (h5.mono (Sm.upd h2))⟩
/-- an operand handed on for good -/
theorem SR.alias1 (S : SR K c F H σ ρ) {v : V} {z : Val} {x : D} {ρ' : Env} (h : OR K F σ v z) (e : PX.alias1 ρ z = some (x, ρ')) :
    ∃ F', SR K c F' H σ ρ' ∧ Ext σ ρ F H ρ' F' H ∧ Den K F' v x := by
  cases z with
  | d y => cases e; exact ⟨F, S, .refl, h⟩
  | fr _ => exact h.elim
  | own i =>
    have h : σ[i]? = some (some v) := h
    cases hk : slot ρ i with
    | un => simp [PX.alias1, hk] at e
    | io _ => simp [PX.alias1, hk] at e
    | fz d =>
      simp [PX.alias1, hk] at e
      obtain ⟨rfl, rfl⟩ := e
      obtain ⟨w, e1, e2⟩ := S.fz i d hk
      rw [h] at e1; cases e1
      exact ⟨F, S, .refl, e2⟩
    | ow xs =>
      simp [PX.alias1, hk] at e
      obtain ⟨rfl, rfl⟩ := e
      obtain ⟨a, vs, e1, _, _, _, s2, x2, dn⟩ := S.freeze hk
      rw [h] at e1; cases e1
      exact ⟨_, s2, x2, dn⟩
theorem SR.aliasL {vs : List V} {zs : List Val} (h : ORL K F σ vs zs) : ∀ {F : Hp} {ρ : Env} {xs : List D} {ρ' : Env}, SR K c F H σ ρ → ORL K F σ vs zs → PX.aliasL ρ zs = some (xs, ρ') →
    ∃ F', SR K c F' H σ ρ' ∧ Ext σ ρ F H ρ' F' H ∧ DenL K F' vs xs := by
  induction h with
  | nil =>
    intro F ρ xs ρ' S _ e
    cases e
    exact ⟨F, S, .refl, .nil⟩
  | @cons v vs z zs h0 t ih =>
    intro F ρ xs ρ' S h e
    cases h with
    | cons h1 h2 =>
      unfold PX.aliasL at e
      cases e1 : PX.alias1 ρ z with
      | none => rw [e1] at e; cases e
      | some r =>
        obtain ⟨x, ρ1⟩ := r
        rw [e1] at e
        obtain ⟨F1, S1, X1, d1⟩ := S.alias1 h1 e1
        cases e2 : PX.aliasL ρ1 zs with
        | none => simp only [e2] at e; cases e
        | some r2 =>
          obtain ⟨ys, ρ2⟩ := r2
          simp only [e2] at e
          cases e
          obtain ⟨F2, S2, X2, d2⟩ := ih S1 (h2.mono X1.exF) e2
          exact ⟨F2, S2, X1.trans X2, .cons (d1.mono X2.exF) d2⟩
end
end PX
/-! PX, part d0: more operators: in of any data, a tuple once or not at all, sets of ints that are counted or sorted. -/
namespace PX
open PySem PySem.Spec PyProof.Rows L2
open AutoSeq1 (wpAny_loadPart')
/-! ### without doubles -/
theorem dedupZ_mem : ∀ (ns : List Int) (k : Int), k ∈ dedupZ ns ↔ k ∈ ns
  | [], k => Iff.rfl
  | n :: ns, k => by
    have ih := dedupZ_mem ns k
    unfold dedupZ
    split
    · rename_i h
      rw [ih, List.mem_cons]
      refine ⟨.inr, fun z => z.elim (fun e => ?_) id⟩
      subst e
      exact List.contains_iff_mem.mp h
    · rw [List.mem_cons, List.mem_cons, ih]
theorem dedupZ_nodup : ∀ ns : List Int, (dedupZ ns).Nodup
  | [] => List.Pairwise.nil
  | n :: ns => by
    unfold dedupZ
    split
    · exact dedupZ_nodup ns
    · rename_i h
      refine List.nodup_cons.mpr ⟨fun z => h (List.contains_iff_mem.mpr ((dedupZ_mem ns n).mp z)), dedupZ_nodup ns⟩
theorem perm_of_mem {a b : List Int} (ha : a.Nodup) (hb : b.Nodup) (h : ∀ k, k ∈ a ↔ k ∈ b) : a.Perm b :=
  (List.perm_ext_iff_of_nodup ha hb).mpr h
theorem firstMet_mem (f : Nat → Int) (k : Int) : ∀ n : Nat, k ∈ firstMet f n ↔ ∃ i, i < n ∧ f i = k
  | 0 => ⟨fun h => (by rw [firstMet_zero] at h; cases h), fun ⟨i, h, _⟩ => absurd h (Nat.not_lt_zero i)⟩
  | n + 1 => by
    have ih := firstMet_mem f k n
    rw [firstMet_succ]
    unfold step_dedup
    have key : (k ∈ firstMet f n ∨ k = f n) ↔ ∃ i, i < n + 1 ∧ f i = k := by
      rw [ih]
      constructor
      · rintro (⟨i, h, e⟩ | e)
        · exact ⟨i, by omega, e⟩
        · exact ⟨n, by omega, e.symm⟩
      · rintro ⟨i, h, e⟩
        rcases Nat.lt_succ_iff_lt_or_eq.mp h with q | q
        · exact .inl ⟨i, q, e⟩
        · subst q; exact .inr e.symm
    split
    · rename_i h
      rw [← key]
      refine ⟨.inl, fun z => z.elim id fun e => ?_⟩
      obtain ⟨x, hx, e2⟩ := List.any_eq_true.mp h
      rw [e, ← beq_iff_eq.mp e2]
      exact hx
    · rw [List.mem_append, List.mem_singleton]
      exact key
theorem firstMet_nodup' (f : Nat → Int) : ∀ n : Nat, (firstMet f n).Nodup
  | 0 => by rw [firstMet_zero]; exact List.Pairwise.nil
  | n + 1 => by
    rw [firstMet_succ]
    unfold step_dedup
    split
    · exact firstMet_nodup' f n
    · rename_i h
      rw [List.nodup_append]
      refine ⟨firstMet_nodup' f n, by simp, fun a ha b hb e => ?_⟩
      rw [List.mem_singleton] at hb
      subst hb e
      exact h (List.any_eq_true.mpr ⟨_, ha, by simp⟩)
theorem firstMet_len (ns : List Int) : (firstMet (fun i => ns.getD i 0) ns.length).length = (dedupZ ns).length := by
  refine (perm_of_mem (firstMet_nodup' _ _) (dedupZ_nodup ns) fun k => ?_).length_eq
  rw [firstMet_mem, dedupZ_mem]
  constructor
  · rintro ⟨i, h, e⟩
    rw [List.getD_eq_getElem?_getD, List.getElem?_eq_getElem h] at e
    rw [← e]
    exact List.getElem_mem h
  · intro h
    obtain ⟨i, hi, e⟩ := List.getElem_of_mem h
    exact ⟨i, hi, by rw [List.getD_eq_getElem?_getD, List.getElem?_eq_getElem hi]; exact e⟩
section
variable {X : Cx} {pos p : Pos}
/-! ### in -/
def rInT (K : PySem.W.Frag) (neg : Bool) : R2 := fun x y H Q => ∃ d ds, Dp K H x d ∧ (Dp K H y (.list ds) ∨ Dp K H y (.tuple ds)) ∧ SeqAt.shaped d = true ∧ SeqAt.shaped (.list ds) = true ∧ Q (.bl (if neg then !ds.any fun z => PyData.eqv z d else ds.any fun z => PyData.eqv z d)) H
theorem op_inT (hu : X.A.units + 65 < cLine) : OpR X (compareOp .In) (rInT X.K false) := by
  intro pins s σ H x y v u Q I rx ry h
  obtain ⟨d, ds, hd, he, sd, se, q⟩ := h
  obtain ⟨as, r1⟩ := Dp.reads I d x v hd rx
  rcases he with he | he
  · obtain ⟨bs, r2⟩ := Dp.reads I (.list ds) y u he ry
    exact SeqAt.in_list_reads r2 r1 (SeqAt.canLay_of_shaped se) (SeqAt.canLay_of_shaped sd) (room_in_shaped sd hu) ⟨.bl _, H, I, rfl, q⟩
  · obtain ⟨bs, r2⟩ := Dp.reads I (.tuple ds) y u he ry
    exact SeqAt.in_tuple_reads r2 r1 (SeqAt.canLay_of_shaped se) (SeqAt.canLay_of_shaped sd) (room_in_shaped sd hu) ⟨.bl _, H, I, rfl, q⟩
theorem op_notInT (hu : X.A.units + 65 < cLine) : OpR X (compareOp .NotIn) (rInT X.K true) := by
  intro pins s σ H x y v u Q I rx ry h
  obtain ⟨d, ds, hd, he, sd, se, q⟩ := h
  obtain ⟨as, r1⟩ := Dp.reads I d x v hd rx
  rcases he with he | he
  · obtain ⟨bs, r2⟩ := Dp.reads I (.list ds) y u he ry
    exact SeqAt.notIn_list_reads r2 r1 (SeqAt.canLay_of_shaped se) (SeqAt.canLay_of_shaped sd) (room_in_shaped sd hu) ⟨.bl _, H, I, rfl, q⟩
  · obtain ⟨bs, r2⟩ := Dp.reads I (.tuple ds) y u he ry
    exact SeqAt.notIn_tuple_reads r2 r1 (SeqAt.canLay_of_shaped se) (SeqAt.canLay_of_shaped sd) (room_in_shaped sd hu) ⟨.bl _, H, I, rfl, q⟩
/-! ### len(set(x)), sorted(set(t)) -/
def tLenSetN (K : PySem.W.Frag) (ta : TE) : TE := fun σ H Q => ta σ H fun x H1 => ∃ (l : Addr) (ns : List Int), x = V.ref l ∧ (SqL K H1 l (ns.map V.int) ∨ SqT K H1 l (ns.map V.int)) ∧ ns.length ≤ 1000 ∧ Q (.int ((dedupZ ns).length : Nat)) H1
theorem pe_lenSetN {a : Expr} {ta : TE} {p2 q : Pos} (hc : X.calm = true) (hg : Gl X "len") (hm : X.mg "len" = none) (hg2 : Gl X "set") (hm2 : X.mg "set" = none) (ha : PE X a ta)
    (na : starEach [a] X.env = (false, eval a X.env) :: starEach [] X.env) : PE X (.Call (.Name "len" p) [.Call (.Name "set" p2) [a] [] q] [] pos) (tLenSetN X.K ta) := by
  refine ⟨fun pins s σ H Q I h => ?_⟩
  refine Call_ (ld_blt I hg hm PySem.boot_len ?_)
  refine PyProof.Rows.callWith_builtin1 (PyProof.Rows.args_cons ?_ rfl) rfl rfl
  refine Call_ (ld_blt I hg2 hm2 PyProof.Rows.boot_set ?_)
  refine PyProof.Rows.callWith_type1 (PyProof.Rows.args_cons (thn (ha.run pins s σ H _ I h) fun v s1 ⟨x, H1, I1, r1, q1⟩ => PyProof.Rows.args_nil ?_) na) na rfl
  obtain ⟨l, ns, rfl, hq, h1, q1⟩ := q1
  cases r1
  rcases hq with hq | hq
  · obtain ⟨its, r, pl, hz⟩ := I1.list hq
    have hl : its.toArray.size = ns.length := by rw [List.size_toArray, ← r.length, List.length_map]
    refine call_set_list (I1.ok.hd hc) pl.isList (ns := ns) (by simpa using r.ints) (by unfold scanBound; omega) fun h' tk hS hk => ?_
    rw [hl, firstMet_len] at hS
    refine PyProof.Rows.args_nil ?_
    obtain ⟨o, es, ep, t, ho, hex, hd, _, _, _, hf, hn⟩ := hS
    have I2 : Inv X pins σ H1 { s1 with heap := h', toks := tk } := I1.kept fun b o e => hk b o (Heap.lt_size e) e
    have hle : es.size ≤ 1000 := by
      rw [hn, ← firstMet_len, ← hl]
      exact Nat.le_trans (firstMet_length_le _ _) (by omega)
    refine call_len_set ho hex hd hf (by omega) ⟨.int ((dedupZ ns).length : Nat), H1, I2.tok _, ⟨_, by rw [hn]⟩, q1⟩
  · obtain ⟨its, r, pl, hz⟩ := I1.tuple hq
    refine call_set_tupI ns (I1.ok.hd hc) pl (by simpa using r.ints) (by unfold scanBound; omega) fun h' tk cc hS hcc hk => ?_
    refine PyProof.Rows.args_nil ?_
    obtain ⟨o, es, ep, t, ho, hex, hd, _, nd, mm, _, hf, hn, _, _⟩ := hS
    have I2 : Inv X pins σ H1 { s1 with heap := h', toks := tk } := I1.kept hk
    have hlen : es.size = (dedupZ ns).length := by
      have := (perm_of_mem nd (dedupZ_nodup ns) fun k => by
        rw [← mm k, dedupZ_mem]
        exact decide_eq_true_iff).length_eq
      simpa using this
    refine call_len_set ho hex hd hf (by omega) ⟨.int ((dedupZ ns).length : Nat), H1, I2.tok _, ⟨_, by rw [hlen]⟩, q1⟩
def tSortSet (K : PySem.W.Frag) (ta : TE) : TE := fun σ H Q => ta σ H fun x H1 => ∃ (l : Addr) (ns : List Int), x = V.ref l ∧ SqT K H1 l (ns.map V.int) ∧ ns.length < 64 ∧ ∀ p : Addr, H1 p = none → Q (.ref p) (upd H1 p (.lst ((setZ ns).map V.int)))
theorem pe_sortSet {a : Expr} {ta : TE} {p2 q : Pos} (hc : X.calm = true) (hg : Gl X "sorted") (hm : X.mg "sorted" = none) (hg2 : Gl X "set") (hm2 : X.mg "set" = none) (ha : PE X a ta)
    (na : starEach [a] X.env = (false, eval a X.env) :: starEach [] X.env) : PE X (.Call (.Name "sorted" p) [.Call (.Name "set" p2) [a] [] q] [] pos) (tSortSet X.K ta) := by
  refine ⟨fun pins s σ H Q I h => ?_⟩
  refine Call_ (ld_blt I hg hm PyProof.Rows.boot_sorted ?_)
  refine PyProof.Rows.callWith_builtin1 (PyProof.Rows.args_cons ?_ rfl) rfl rfl
  refine Call_ (ld_blt I hg2 hm2 PyProof.Rows.boot_set ?_)
  refine PyProof.Rows.callWith_type1 (PyProof.Rows.args_cons (thn (ha.run pins s σ H _ I h) fun v s1 ⟨x, H1, I1, r1, q1⟩ => PyProof.Rows.args_nil ?_) na) na rfl
  obtain ⟨l, ns, rfl, hq, h1, q1⟩ := q1
  cases r1
  obtain ⟨its, r, pl, hz⟩ := I1.tuple hq
  refine call_set_tupI ns (I1.ok.hd hc) pl (by simpa using r.ints) (by unfold scanBound; omega) fun h' tk cc hS hcc hk => ?_
  refine PyProof.Rows.args_nil ?_
  have I2 : Inv X pins σ H1 { s1 with heap := h', toks := tk } := I1.kept hk
  refine sorted_set hS (I2.ok.hd hc) (by omega) fun s' pp out c ms k g o hp hg hi hs hm hl => ?_
  have hlen : (ms.map V.int).length ≤ sizeLine := by rw [List.length_map, hl, sizeLine_eq]; omega
  have hn : H1 pp = none := I2.hok.fresh hp
  have J : Inv X pins σ (upd H1 pp (.lst (ms.map V.int))) { { s1 with heap := h', toks := tk } with heap := s'.heap, gens := s'.gens, drawn := s'.drawn, toks := s'.toks } :=
    I2.call (ch := []) (Un.laid k hp hn) (I2.hok.laid k hp ⟨hlen, out.toList, c, vals_of_ints hi, hg⟩) (by rw [g]; exact I2.bare) (fun _ z => nomatch z)
  have e : s' = { { s1 with heap := h', toks := tk } with heap := s'.heap, gens := s'.gens, drawn := s'.drawn, toks := s'.toks } := by
    cases s'
    cases s1
    cases o
    rfl
  have em : ms = setZ ns := by
    refine List.Perm.eq_of_pairwise (fun x y _ _ h1 h2 => Int.le_antisymm h1 h2) (hs.imp fun h => by omega) (sortZ_le' _) ((perm_of_mem (hs.imp fun h => by omega) (dedupZ_nodup ns) fun k => ?_).trans (List.mergeSort_perm _ _).symm)
    rw [hm k, dedupZ_mem]
    exact decide_eq_true_iff
  rw [e]
  rw [← em] at q1
  exact ⟨.ref pp, _, J, rfl, q1 pp hn⟩
end
end PX
/-! PX, part d1: a tuple times a number. -/
namespace PX
open PySem PySem.Spec PyProof.Rows L2
open AutoSeq1 (wpAny_loadPart')
theorem mul_once (l : Addr) (items : Array Value) (n : Nat) (dd : Option Addr) (sl : Array (Option Value)) (x : Int) (u : Tok) (c0 : (decide (x < -(2 ^ 63)) || decide (x ≥ 2 ^ 63)) = false) (c1 : (items.isEmpty || x == 1) = true) :
    Meets (Builtin.«tuple.__mul__» ⟨[.ref l, .int x u], []⟩) (fun _ R s => s.heap.get? l = some { cls := .type "tuple", dict := dd, data := .seq items n, slots := sl } ∧ R (.ok (.ret (Value.ref l))) s) :=
  .of_wp fun prog w A R s h => by
    obtain ⟨hp, g, d, tk, os⟩ := s
    obtain ⟨hl, h⟩ := h
    have f1 := AutoSeq1.idx_int
    wp_walk using wpAny_loadPart' hl
    repeat (first
      | (refine wpAny_ite_false (decide_eq_false (by rw [c0]; exact Bool.false_ne_true)) ?_; wp_walk using wpAny_loadPart' hl)
      | (refine wpAny_ite_true (decide_eq_true c1) ?_; wp_walk using wpAny_loadPart' hl))
    exact ⟨_, rfl, h⟩
theorem mul_never (l : Addr) (items : Array Value) (n : Nat) (dd : Option Addr) (sl : Array (Option Value)) (x : Int) (u : Tok) (c0 : (decide (x < -(2 ^ 63)) || decide (x ≥ 2 ^ 63)) = false) (c1 : (items.isEmpty || x == 1) = false) (c2 : (decide (x ≤ 0) || items.isEmpty) = true) :
    Meets (Builtin.«tuple.__mul__» ⟨[.ref l, .int x u], []⟩) (fun _ R s => s.heap.get? l = some { cls := .type "tuple", dict := dd, data := .seq items n, slots := sl } ∧
      R (.ok (.ret (Value.ref s.heap.objs.size))) { s with heap := s.heap.push { cls := Value.type "tuple", data := Data.seq #[] }, toks := s.toks }) :=
  .of_wp fun prog w A R s h => by
    obtain ⟨hp, g, d, tk, os⟩ := s
    obtain ⟨hl, h⟩ := h
    have f1 := AutoSeq1.idx_int
    wp_walk using wpAny_loadPart' hl
    repeat (first
      | (refine wpAny_ite_false (decide_eq_false (by rw [c0]; exact Bool.false_ne_true)) ?_; wp_walk using wpAny_loadPart' hl)
      | (refine wpAny_ite_false (decide_eq_false (by rw [c1]; exact Bool.false_ne_true)) ?_; wp_walk using wpAny_loadPart' hl)
      | (refine wpAny_ite_true (decide_eq_true c2) ?_; wp_walk using wpAny_loadPart' hl))
    exact ⟨_, rfl, h⟩
def rRepA (K : PySem.W.Frag) : R2 := fun x y H Q => ∃ l k xs, x = .ref l ∧ y = .int k ∧ SqT K H l xs ∧ xs ≠ [] ∧ 0 ≤ k ∧ k ≤ 1000 ∧ xs.length ≤ 1000 ∧ (k = 1 → Q (.ref l) H) ∧ ∀ p, k ≠ 1 → H p = none → Q (.ref p) (upd H p (.tup (List.replicate k.toNat xs).flatten))
theorem op_repA {X : Cx} : OpR X (binaryOp .Mult) (rRepA X.K) := by
  intro pins s σ H x y v u Q I rx ry h
  obtain ⟨l, k, xs, rfl, rfl, hT, hne, h1, h2, hz, q1, q⟩ := h
  by_cases hk : 2 ≤ k
  · exact op_repT pins s σ H _ _ v u Q I rx ry ⟨l, k, xs, rfl, rfl, hT, hne, hk, h2, hz, fun p hp => q p (by omega) hp⟩
  cases rx
  obtain ⟨t, rfl⟩ := ry
  obtain ⟨its, r, ⟨⟨cls, dd, data, sl⟩, ho, hc, n, hd⟩, hs⟩ := I.tuple hT
  simp only at hc hd
  subst hc hd
  have hle : its.length = xs.length := r.length.symm
  have hn : its ≠ [] := fun e => hne (by
    rw [e] at hle
    exact List.eq_nil_of_length_eq_zero hle.symm)
  have hi : its.toArray.isEmpty = false := by
    cases its with
    | nil => exact absurd rfl hn
    | cons a b => rfl
  have c0 : (decide (k < -(2 ^ 63)) || decide (k ≥ 2 ^ 63)) = false := by
    rw [decide_eq_false (by omega), decide_eq_false (by omega)] <;> rfl
  by_cases h1' : k = 1
  · subst h1'
    refine wpAny_binaryOp_repeat_ref (T := "tuple") (U := "int") (by decide) ⟨_, ho, rfl⟩ (fun s' => typeIs_int s' 1 t) noFill_tuple_mul F.fills_int_mul F.slot_int_rmul repeat_tuple F.slot_int_index.lookup
      (call_meets F.slot_int_rmul (typeIs_int s 1 t) F.entry_int_rmul (F.args_int_rmul_2 _ _) (int_rmul_tuple 1 t l its.toArray n dd sl)
        ⟨ho, rfl, ⟨_, ho, rfl⟩, call_meets F.slot_tuple_mul ⟨_, ho, rfl⟩ F.entry_tuple_mul (F.args_tuple_mul_2 _ _) (mul_once l its.toArray n dd sl 1 t c0 (by rw [hi]; rfl)) ⟨ho, ?_⟩⟩)
    exact ⟨.ref l, H, I, rfl, q1 rfl⟩
  · have hk0 : k = 0 := by omega
    subst hk0
    refine wpAny_binaryOp_repeat_ref (T := "tuple") (U := "int") (by decide) ⟨_, ho, rfl⟩ (fun s' => typeIs_int s' 0 t) noFill_tuple_mul F.fills_int_mul F.slot_int_rmul repeat_tuple F.slot_int_index.lookup
      (call_meets F.slot_int_rmul (typeIs_int s 0 t) F.entry_int_rmul (F.args_int_rmul_2 _ _) (int_rmul_tuple 0 t l its.toArray n dd sl)
        ⟨ho, rfl, ⟨_, ho, rfl⟩, call_meets F.slot_tuple_mul ⟨_, ho, rfl⟩ F.entry_tuple_mul (F.args_tuple_mul_2 _ _) (mul_never l its.toArray n dd sl 0 t c0 (by rw [hi]; rfl) rfl) ⟨ho, ?_⟩⟩)
    refine ⟨.ref s.heap.objs.size, _, I.laid (t' := s.toks) (o := .tup []) (fun b ob q => Heap.get?_push_of_some _ q) (Nat.le_refl _) ?_, rfl, q _ (by decide) (I.hok.fresh (Nat.le_refl _))⟩
    exact ⟨Nat.zero_le _, [], .nil, IsTup.new _ _⟩
end PX
/-! PX, part c: expressions. -/
namespace PX
open PySem PySem.Spec PyProof.Rows L2

/-! ### what is wanted -/
/-- the wish about an exception: its class, its value, the slots, the state -/
abbrev XW := String → D → St → Env → Hp → Hp → Prop
def G {α : Type} (K : PySem.W.Frag) (c : FC) (W : XW) (σ : St) (ρ : Env) (F H : Hp) (r : Res (α × Env)) (k : α → Env → Hp → Hp → Prop) : Prop :=
  match r with
  | .ok q => ∀ F' H', SR K c F' H' σ q.2 → Ext σ ρ F H q.2 F' H' → k q.1 q.2 F' H'
  | .ex cn v ρ' => ∀ F' H', SR K c F' H' σ ρ' → Ext σ ρ F H ρ' F' H' → W cn v σ ρ' F' H'
  | .bad => False
section
variable {K : PySem.W.Frag} {c : FC} {W : XW} {σ : St} {ρ : Env} {F H : Hp} {α β : Type} {r : Res (α × Env)} {g : α × Env → Res (β × Env)}
theorem G.imp {k k' : α → Env → Hp → Hp → Prop} (h : G K c W σ ρ F H r k) (hk : ∀ a ρ' F' H', SR K c F' H' σ ρ' → Ext σ ρ F H ρ' F' H' → k a ρ' F' H' → k' a ρ' F' H') : G K c W σ ρ F H r k' := by
  cases r with
  | ok q => exact fun F' H' S X => hk _ _ _ _ S X (h F' H' S X)
  | ex cn v ρ' => exact h
  | bad => exact h
theorem G.bind {k : β → Env → Hp → Hp → Prop} (h : G K c W σ ρ F H (r.bind g) k) : G K c W σ ρ F H r fun a ρ1 F1 H1 => G K c W σ ρ1 F1 H1 (g (a, ρ1)) k := by
  cases r with
  | ok q =>
    intro F1 H1 S1 X1
    have h : G K c W σ ρ F H (g q) k := h
    show G K c W σ q.2 F1 H1 (g q) k
    cases e : g q with
    | ok q2 => rw [e] at h; exact fun F2 H2 S2 X2 => h F2 H2 S2 (X1.trans X2)
    | ex cn v ρ' => rw [e] at h; exact fun F2 H2 S2 X2 => h F2 H2 S2 (X1.trans X2)
    | bad => rw [e] at h; exact h
  | ex cn v ρ' => exact h
  | bad => exact h
theorem G.need {γ : Type} {o : Option γ} {f : γ → Res (β × Env)} {k : β → Env → Hp → Hp → Prop} (h : G K c W σ ρ F H ((Res.need o).bind f) k) : ∃ a, o = some a ∧ G K c W σ ρ F H (f a) k := by
  cases o with
  | none => exact h.elim
  | some a => exact ⟨a, rfl, h⟩
/-- a pure outcome -/
theorem G.pure {γ : Type} {o : Res γ} {f : γ → Res (β × Env)} {k : β → Env → Hp → Hp → Prop} (ne : ∀ cn v ρ', o ≠ .ex cn v ρ') (h : G K c W σ ρ F H (o.bind f) k) : ∃ a, o = .ok a ∧ G K c W σ ρ F H (f a) k := by
  cases o with
  | ok a => exact ⟨a, rfl, h⟩
  | ex cn v ρ' => exact absurd rfl (ne cn v ρ')
  | bad => exact h.elim
theorem G.here {a : α} {ρ' : Env} {k : α → Env → Hp → Hp → Prop} {F' H' : Hp} (h : G K c W σ ρ F H (.ok (a, ρ')) k) (S : SR K c F' H' σ ρ') (X : Ext σ ρ F H ρ' F' H') : k a ρ' F' H' := h F' H' S X
end

/-! ### readings -/
section
variable (K : PySem.W.Frag) (c : FC) (W : XW)
def RE (f : Env → Res (Val × Env)) : TE := fun σ H Q => ∃ F ρ, SR K c F H σ ρ ∧ G K c W σ ρ F H (f ρ) fun z ρ' F' H' => ∀ v, VR K c σ ρ' F' H' H v z → Q v H'
/-- an operand -/
def RO (f : Env → Res (Val × Env)) : TE := fun σ H Q => ∃ F ρ, SR K c F H σ ρ ∧ G K c W σ ρ F H (opd (f ρ)) fun z ρ' F' H' => ∀ v, OR K F' σ v z → Q v H'
def RT (f : Env → Res (Bool × Env)) : TT := fun σ H Q => ∃ F ρ, SR K c F H σ ρ ∧ G K c W σ ρ F H (f ρ) fun b ρ' F' H' => Q b H'
def RA (f : Env → Res (List Val × Env)) : TA := fun σ H Q => ∃ F ρ, SR K c F H σ ρ ∧ G K c W σ ρ F H (f ρ) fun zs ρ' F' H' => ∀ vs, ORL K F' σ vs zs → Q vs H'
end
section
variable {K : PySem.W.Frag} {c : FC} {W : XW} {X : Cx} {e : Expr} {f : Env → Res (Val × Env)}
theorem pe_imp {t t' : TE} (h : PE X e t) (hi : ∀ σ H Q, t' σ H Q → t σ H Q) : PE X e t' := ⟨fun pins s σ H Q I q => h.run pins s σ H Q I (hi σ H Q q)⟩
theorem pt_imp {t t' : TT} (h : PT X e t) (hi : ∀ σ H Q, t' σ H Q → t σ H Q) : PT X e t' := ⟨fun pins s σ H Q I q => h.run pins s σ H Q I (hi σ H Q q)⟩
theorem pa_imp {es : List Expr} {t t' : TA} (h : PA X es t) (hi : ∀ σ H Q, t' σ H Q → t σ H Q) : PA X es t' := ⟨fun pos pins s σ H Q I q => h.run pos pins s σ H Q I (hi σ H Q q)⟩
/-- a value settles into an operand -/
theorem RO.re {σ : St} {H : Hp} {Q : VK} (h : RO K c W f σ H Q) : RE K c W f σ H Q := by
  obtain ⟨F, ρ, S, g⟩ := h
  refine ⟨F, ρ, S, ?_⟩
  unfold opd at g
  cases e : f ρ with
  | ok q =>
    rw [e] at g
    intro F1 H1 S1 X1 v hv
    obtain ⟨F2, S2, X2, o2⟩ := S1.settle X1 hv
    exact g F2 H1 S2 X2 v o2
  | ex cn v ρ' => rw [e] at g; exact g
  | bad => rw [e] at g; exact g
theorem pe_opd (h : PE X e (RE K c W f)) : PE X e (RO K c W f) := pe_imp h fun _ _ _ => RO.re
/-- data that is a value of its own -/
theorem vr_d {σ : St} {ρ : Env} {F H H00 : Hp} {v : V} {x : D} (h : Den K F v x) : VR K c σ ρ F H H00 v (.d x) := h
end

/-! ### operations by values -/
section
variable (K : PySem.W.Frag) (c : FC)
/-- what stands behind an operation from a state: the state as it is, a new tuple, a new list -/
def Aft (σ : St) (ρ : Env) (F H : Hp) (z : Val) (Q : VK) : Prop := ∀ F' H' v, SR K c F' H' σ ρ → Ext σ ρ F H ρ F' H' → VR K c σ ρ F' H' H v z → Q v H'
def Op1 (r : V → Hp → VK → Prop) (f : D → Res Val) : Prop := ∀ {σ : St} {ρ : Env} {F H : Hp} {v : V} {z : Val} {x : D} {y : Val} {Q : VK}, SR K c F H σ ρ → OR K F σ v z → look ρ z = some x → f x = .ok y → Aft K c σ ρ F H y Q → r v H Q
def Op2 (r : R2) (f : D → D → Res Val) : Prop := ∀ {σ : St} {ρ : Env} {F H : Hp} {v w : V} {z z' : Val} {x x' : D} {y : Val} {Q : VK}, SR K c F H σ ρ → OR K F σ v z → OR K F σ w z' → look ρ z = some x → look ρ z' = some x' → f x x' = .ok y →
  Aft K c σ ρ F H y Q → r v w H Q
def OpL (r : List V → Hp → VK → Prop) (f : List D → Res Val) : Prop := ∀ {σ : St} {ρ : Env} {F H : Hp} {vs : List V} {zs : List Val} {xs : List D} {y : Val} {Q : VK}, SR K c F H σ ρ → ORL K F σ vs zs → lookL ρ zs = some xs → f xs = .ok y →
  Aft K c σ ρ F H y Q → r vs H Q
end
section
variable {K : PySem.W.Frag} {c : FC} {σ : St} {ρ : Env} {F H : Hp} {Q : VK}
theorem Aft.same {v : V} {x : D} (S : SR K c F H σ ρ) (h : Aft K c σ ρ F H (.d x) Q) (d : Den K F v x) : Q v H := h F H v S .refl d
theorem Aft.int {i : Int} (S : SR K c F H σ ρ) (h : Aft K c σ ρ F H (.d (.int i)) Q) : Q (.int i) H := h.same S (.int i)
theorem Aft.bool {i : Bool} (S : SR K c F H σ ρ) (h : Aft K c σ ρ F H (.d (.bool i)) Q) : Q (.bl i) H := h.same S (.bl i)
theorem Aft.newT {p : Addr} {vs : List V} {xs : List D} (S : SR K c F H σ ρ) (h : Aft K c σ ρ F H (.d (.tuple xs)) Q) (hp : H p = none) (hz : vs.length ≤ sizeLine) (d : DenL K F vs xs) : Q (.ref p) (upd H p (.tup vs)) := by
  have S1 := S.laid hp (S.hl.updT (p := p) hz)
  have hF := S.freshF hp
  refine h (upd F p (.tup vs)) _ _ (S1.take upd_same hF (S.fresh0 hp) ?_) ((Ext.laid hp).took hF hp) (.tup (.inl (.inl upd_same)) (d.mono (Sm.upd hF)))
  exact fun z => S.freshO hp z
theorem Aft.newL {p : Addr} {vs : List V} {xs : List D} (S : SR K c F H σ ρ) (h : Aft K c σ ρ F H (.fr xs) Q) (hp : H p = none) (hz : vs.length ≤ sizeLine) (d : DenL K F vs xs) : Q (.ref p) (upd H p (.lst vs)) :=
  h F _ _ (S.laid hp (S.hl.updL (p := p) hz)) (.laid hp) ⟨p, vs, rfl, upd_same, S.freshF hp, S.fresh0 hp, hp, d, S.freshO hp⟩
end
section
variable {X : Cx} {c : FC} {W : XW} {a b : Expr} {fa fb : Env → Res (Val × Env)} {pos : Pos}
/-- two operands, one operation: the reading -/
theorem two_op {r : R2} {f : D → D → Res Val} (op : Op2 X.K c r f) (ne : ∀ x y cn v ρ', f x y ≠ .ex cn v ρ') {σ : St} {H : Hp} {Q : VK} (h : RE X.K c W (fun ρ => twoD (fa ρ) fb f) σ H Q) : tOp r (RO X.K c W fa) (RO X.K c W fb) σ H Q := by
  obtain ⟨F, ρ, S, g⟩ := h
  refine ⟨F, ρ, S, ?_⟩
  unfold twoD at g
  refine g.bind.imp fun z ρ1 F1 H1 S1 X1 g1 v o1 => ?_
  refine ⟨F1, ρ1, S1, g1.bind.imp fun z' ρ2 F2 H2 S2 X2 g2 w o2 => ?_⟩
  obtain ⟨x, e1, g2⟩ := g2.need
  obtain ⟨y, e2, g2⟩ := g2.need
  obtain ⟨u, e3, g2⟩ := g2.pure (ne x y)
  refine op S2 (o1.mono X2.exF) o2 e1 e2 e3 fun F' H' v' S' X' hv => ?_
  refine g2.here S' X' v' ?_
  have al : ∀ a, H2 a = none → H a = none := fun a q => X1.alive a (X2.alive a q)
  cases u with
  | d _ => exact hv
  | own _ => exact hv
  | fr _ =>
    obtain ⟨p, vs, h1, h2, h3, h4, h5, h6⟩ := hv
    exact ⟨p, vs, h1, h2, h3, h4, al p h5, h6⟩
theorem one_op {r : V → Hp → VK → Prop} {f : D → Res Val} (op : Op1 X.K c r f) (ne : ∀ x cn v ρ', f x ≠ .ex cn v ρ') {σ : St} {H : Hp} {Q : VK} (h : RE X.K c W (fun ρ => oneD (fa ρ) f) σ H Q) : RO X.K c W fa σ H fun v H1 => r v H1 Q := by
  obtain ⟨F, ρ, S, g⟩ := h
  refine ⟨F, ρ, S, ?_⟩
  unfold oneD at g
  refine g.bind.imp fun z ρ1 F1 H1 S1 X1 g1 v o1 => ?_
  obtain ⟨x, e1, g1⟩ := g1.need
  obtain ⟨u, e3, g1⟩ := g1.pure (ne x)
  refine op S1 o1 e1 e3 fun F' H' v' S' X' hv => ?_
  refine g1.here S' X' v' ?_
  cases u with
  | d _ => exact hv
  | own _ => exact hv
  | fr _ =>
    obtain ⟨p, vs, h1, h2, h3, h4, h5, h6⟩ := hv
    exact ⟨p, vs, h1, h2, h3, h4, X1.alive p h5, h6⟩
end

/-! ### the rules by kinds -/
section
variable {X : Cx}
theorem Inv.lstR {pins : List (Addr × Obj)} {σ : St} {H : Hp} {s : Shared} {l : Addr} {xs : List V} (I : Inv X pins σ H s) (hH : SqP X.K H l xs) : xs.length ≤ sizeLine ∧ ∃ (its : List Value) (n : Nat), Vals xs its ∧ xs.length = its.length ∧ s.heap.get? l = some { cls := .type "list", data := .seq its.toArray n } := by
  rcases hH with hH | ⟨its, n, hk, hz, r⟩
  · obtain ⟨z, its, n, r, e⟩ := hH.ok I.hok
    exact ⟨z, its, n, r, r.length, e⟩
  · exact ⟨by rw [r.length]; exact hz, its, n, r, r.length, I.kIn l _ hk⟩
def rCatR (K : PySem.W.Frag) : R2 := fun x y H Q => ∃ l b xs zs, x = .ref l ∧ y = .ref b ∧ SqP K H l xs ∧ SqP K H b zs ∧ xs.length + zs.length ≤ sizeLine ∧ ∀ p, H p = none → Q (.ref p) (upd H p (.lst (xs ++ zs)))
theorem op_catR : OpR X (binaryOp .Add) (rCatR X.K) := by
  intro pins s σ H x y v u Q I rx ry h
  obtain ⟨l, b, xs, zs, rfl, rfl, hH, hB, hz, q⟩ := h
  cases rx
  cases ry
  obtain ⟨z, its, n, r, hl, e⟩ := Inv.lstR I hH
  obtain ⟨z2, its2, n2, r2, hl2, e2⟩ := Inv.lstR I hB
  refine PySem.P.add_list e e2 ?_ (by rw [List.size_toArray, List.size_toArray]; omega)
  have ea : its.toArray ++ its2.toArray = (its ++ its2).toArray := by simp
  rw [ea]
  exact ⟨.ref _, _, I.lnew (t' := s.toks) (r.append r2) (by rw [List.length_append]; omega), rfl, q _ I.fresh⟩
def rRepR (K : PySem.W.Frag) : R2 := fun x y H Q => ∃ l k xs, x = .ref l ∧ y = .int k ∧ SqP K H l xs ∧ -(2 ^ 63) ≤ k ∧ k < 2 ^ 63 ∧ xs.length * k.toNat ≤ sizeLine ∧
  ∀ p, H p = none → Q (.ref p) (upd H p (.lst (List.replicate k.toNat xs).flatten))
theorem op_repR : OpR X (binaryOp .Mult) (rRepR X.K) := by
  intro pins s σ H x y v u Q I rx ry h
  obtain ⟨l, k, xs, rfl, rfl, hH, h1, h2, hz, q⟩ := h
  cases rx
  obtain ⟨t, rfl⟩ := ry
  obtain ⟨z, its, n, r, hl, e⟩ := Inv.lstR I hH
  have hlen : its.toArray.size * k.toNat ≤ sizeLine := by rw [List.size_toArray, ← hl]; exact hz
  have hcap : ¬ its.toArray.size * k.toNat > (2 ^ 63 - 1) / 8 := by
    have : (sizeLine : Nat) ≤ (2 ^ 63 - 1) / 8 := by decide
    omega
  have hfit : ¬ (!Builtin.List.listFitsIndex k) = true := by
    rw [fitsIndex_both h1 h2]
    exact Bool.false_ne_true
  have hlong : ¬ Builtin.List.listTooLong (its.toArray.size * k.toNat) = true := by
    rw [notLongL hlen]
    exact Bool.false_ne_true
  have hnew : List.foldl (fun x1 x2 => x1 ++ x2) #[] (List.replicate (if its.toArray.isEmpty = true then 0 else k.toNat) its.toArray) = (List.replicate k.toNat its).flatten.toArray := by
    have f0 : ∀ m : Nat, List.foldl (fun x1 x2 => x1 ++ x2) #[] (List.replicate m its.toArray) = (List.replicate m its).flatten.toArray := fun m => by
      have := foldl_rep its m []
      rw [List.nil_append] at this
      exact this
    rw [f0]
    cases its with
    | nil => simp
    | cons a r' => rw [if_neg (by simp)]
  refine wpAny_binaryOp_repeat_ref (T := "list") (U := "int") (by decide) ⟨_, e, rfl⟩ (fun s' => typeIs_int s' k t) noFill_list_mul F.fills_int_mul F.slot_int_rmul repeat_list F.slot_int_index.lookup
    (call_meets F.slot_int_rmul (typeIs_int s k t) F.entry_int_rmul (F.args_int_rmul_2 _ _) (int___rmul___int_list k t l its.toArray n)
      ⟨e, rfl, ⟨_, e, rfl⟩, call_meets F.slot_list_mul ⟨_, e, rfl⟩ F.entry_list_mul (F.args_list_mul_2 _ _) (AutoListH.list___mul___list_int_3 l its.toArray n k t hfit hcap hlong) ⟨e, ?_⟩⟩)
  rw [hnew]
  exact ⟨.ref _, _, I.lnew (t' := s.toks) (r.rep k.toNat) (by rw [PyProof.Rows.lm_len_rep_flat, Nat.mul_comm]; exact hz), rfl, q _ I.fresh⟩
end
section
variable {K : PySem.W.Frag} {c : FC}
/-- the union of rules -/
def rOr (r r' : R2) : R2 := fun x y H Q => r x y H Q ∨ r' x y H Q
def rNo : R2 := fun _ _ _ _ => False
theorem opNo {X : Cx} {f : Value → Value → Sem Value} : OpR X f rNo := fun _ _ _ _ _ _ _ _ _ _ _ _ h => h.elim
/-- what binV asks of the model -/
def rBin (K : PySem.W.Frag) : Operator → R2
  | .Add => rOr (rI0 fun i j => .int (i + j)) (rOr (rCatA K) (rCatR K))
  | .Sub => rI0 fun i j => .int (i - j)
  | .Mult => rOr (rI CMul fun i j => .int (i * j)) (rOr (rRepR K) (rRepA K))
  | .FloorDiv => rI CDivN fun i j => .int (i.fdiv j)
  | .Mod => rI (fun _ j => j ≠ 0) fun i j => .int (i.fmod j)
  | .Pow => rI CPow fun i j => .int (i ^ j.toNat)
  | .LShift => rI CPow fun i j => .int (i * 2 ^ j.toNat)
  | .BitAnd => rI0 fun i j => .int (Builtin.bitAnd i j)
  | .BitOr => rI0 fun i j => .int (Builtin.bitOr i j)
  | _ => rNo
theorem bin_ok {X : Cx} (op : Operator) : OpR X (binaryOp op) (rBin X.K op) := by
  cases op <;> first
    | exact op_add.or (op_catA.or op_catR)
    | exact op_sub
    | exact op_mul.or (op_repR.or op_repA)
    | exact op_fdivN
    | exact op_modN
    | exact op_pow
    | exact op_shl
    | exact op_and
    | exact op_or
    | exact opNo
theorem atI_mem {α : Type} {xs : List α} {i : Int} {v : α} (h : atI xs i = some v) : v ∈ xs := by
  unfold atI at h
  cases hj : ixN xs.length i with
  | none => rw [hj] at h; cases h
  | some j => rw [hj] at h; exact List.mem_of_getElem? h
theorem binV_ne : ∀ (op : Operator) (x y : D) (cn : String) (v : D) (ρ' : Env), binV op x y ≠ .ex cn v ρ' := by
  intro op x y cn v ρ' h
  unfold binV at h
  split at h <;> first | cases h | (split at h <;> cases h)
theorem bin_op {X : Cx} (op : Operator) : Op2 X.K c (rBin X.K op) (binV op) := by
  intro σ ρ F H v w z z' x x' y Q S o1 o2 e1 e2 e3 q
  unfold binV at e3
  split at e3
  · cases e3; exact .inl ⟨_, _, S.lookI o1 e1, S.lookI o2 e2, q.int S⟩
  · split at e3
    · rename_i hf
      cases e3
      obtain ⟨a, vs, rfl, s1, s1', d1⟩ := S.lookT o1 e1
      obtain ⟨b, ws, rfl, s2, s2', d2⟩ := S.lookT o2 e2
      have hz : vs.length + ws.length ≤ sizeLine := by rw [d1.length, d2.length]; exact of_decide_eq_true hf
      refine .inr (.inl ⟨a, b, vs, ws, rfl, rfl, s1', s2', hz, fun h0 => ?_, fun h0 h1 => ?_, fun _ _ p hp => q.newT S hp (by rw [List.length_append]; exact hz) (d1.append d2)⟩)
      · subst h0
        cases d1
        exact q.same S (.tup s2 d2)
      · subst h1
        cases d2
        refine q.same S ?_
        rw [List.append_nil]
        exact .tup s1 d1
    · cases e3
  · split at e3
    · rename_i hf
      cases e3
      obtain ⟨a, vs, rfl, s1, d1⟩ := S.lookL o1 e1
      obtain ⟨b, ws, rfl, s2, d2⟩ := S.lookL o2 e2
      have hz : vs.length + ws.length ≤ sizeLine := by rw [d1.length, d2.length]; exact of_decide_eq_true hf
      exact .inr (.inr ⟨a, b, vs, ws, rfl, rfl, s1, s2, hz, fun p hp => q.newL S hp (by rw [List.length_append]; exact hz) (d1.append d2)⟩)
    · cases e3
  · cases e3; exact ⟨_, _, S.lookI o1 e1, S.lookI o2 e2, q.int S⟩
  · split at e3
    · rename_i hf
      cases e3; exact .inl ⟨_, _, S.lookI o1 e1, S.lookI o2 e2, hf, q.int S⟩
    · cases e3
  · split at e3
    · rename_i hf
      cases e3
      obtain ⟨a, vs, rfl, s1, d1⟩ := S.lookL o1 e1
      have hz := hf.2
      rw [← d1.length] at hz
      refine .inr (.inl ⟨a, _, vs, rfl, S.lookI o2 e2, s1, hf.1.1, hf.1.2, hz, fun p hp => q.newL S hp ?_ (d1.rep _)⟩)
      rw [PyProof.Rows.lm_len_rep_flat, Nat.mul_comm]; exact hz
    · cases e3
  · split at e3
    · rename_i hf
      cases e3
      simp only [Bool.and_eq_true, Bool.not_eq_true', decide_eq_true_eq, inB_iff] at hf
      obtain ⟨⟨f1, f2, f3⟩, f4⟩ := hf
      obtain ⟨a, vs, rfl, s1, s1', d1⟩ := S.lookT o1 e1
      have hlen := d1.length
      have hne : vs ≠ [] := fun z => by
        subst z
        cases d1
        cases f1
      refine .inr (.inr ⟨a, _, vs, rfl, S.lookI o2 e2, s1', hne, by omega, by omega, by omega, fun h1 => ?_, fun p _ hp => q.newT S hp ?_ (d1.rep _)⟩)
      · subst h1
        refine q.same S ?_
        have := d1.rep 1
        rw [show List.replicate 1 vs = [vs] from rfl, List.flatten_singleton] at this
        exact .tup s1 this
      · rw [PyProof.Rows.lm_len_rep_flat, sizeLine_eq]
        have a1 := Nat.mul_le_mul (Int.toNat_le.mpr f3) (show vs.length ≤ 1000 by omega)
        omega
    · cases e3
  · split at e3
    · rename_i hf
      cases e3; exact ⟨_, _, S.lookI o1 e1, S.lookI o2 e2, hf, q.int S⟩
    · cases e3
  · split at e3
    · rename_i hf
      cases e3; exact ⟨_, _, S.lookI o1 e1, S.lookI o2 e2, hf, q.int S⟩
    · cases e3
  · split at e3
    · rename_i hf
      cases e3; exact ⟨_, _, S.lookI o1 e1, S.lookI o2 e2, ⟨hf.1.1, hf.1.2, hf.2⟩, q.int S⟩
    · cases e3
  · split at e3
    · rename_i hf
      cases e3; exact ⟨_, _, S.lookI o1 e1, S.lookI o2 e2, ⟨hf.1.1, hf.1.2, hf.2⟩, q.int S⟩
    · cases e3
  · cases e3; exact ⟨_, _, S.lookI o1 e1, S.lookI o2 e2, q.int S⟩
  · cases e3; exact ⟨_, _, S.lookI o1 e1, S.lookI o2 e2, q.int S⟩
  · cases e3
end
end PX
/-! sorted of a tuple of ints -/
namespace PX
open PySem PySem.Spec PyProof.Rows L2 SrtO Srt
section
variable {prog : Program} {w : World} {A : Around} {Ex : Value → Shared → Prop} {s : Shared}
theorem collect_seq {tp : Addr} {us : List Value} {k : Nat} {ob : Obj} {Q : List Value → Shared → Prop} (hg : s.heap.get? tp = some ob) (hcl : ob.cls = .type "tuple") (hda : ob.data = .seq us.toArray k)
    (q : Q us { s with heap := (s.heap.push (seqObj "list" #[] 0)).update s.heap.objs.size (Obj.mapSeq (· ++ us.toArray)) }) (hus : us.length ≤ sizeLine) :
    wpAny (model prog w) A (collect (.ref tp)) Q Ex s := by
  unfold collect
  refine wpAny_bind (wpAny_runValue (codeAny_builtin entry_proto_collect' ?g1))
  show wpAny _ _ (do again (.builtin "list.__iadd__" ⟨[← newList [], .ref tp], []⟩)) _ _ s
  refine wpAny_bind (wpAny_newList (wpAny_pure ⟨Code.quiet_builtin _ (by decide +kernel), codeAny_builtin entry_list_iadd' ?g2⟩))
  show wpAny _ _ (Builtin.List.listExtendWith (.ref s.heap.objs.size) (.ref tp) (.ref s.heap.objs.size)) _ _ { s with heap := s.heap.push (seqObj "list" #[] 0) }
  unfold Builtin.List.listExtendWith
  have hg2 : (s.heap.push (seqObj "list" #[] 0)).get? tp = some ob := Heap.get?_push_of_some _ hg
  refine wpAny_bind (wpAny_typeOf (T := "tuple") ⟨ob, hg2, hcl⟩ ?g3)
  have e0 : (Value.type "tuple" == Value.type "tuple") = true := by rfl
  rw [if_pos (by rw [e0]; simp)]
  refine wpAny_bind (listItems_at hg2 hda ?g4)
  refine wpAny_bind (listItems_at (xs := #[]) (n := 0) (Heap.get?_push_size _ rfl) rfl ?g5)
  rw [if_neg (by simp)]
  have room : (#[] ++ us.toArray).size ≤ sizeLine + 1 := by
    simp only [Array.size_append, List.size_toArray, List.length_nil]
    omega
  refine wpAny_bind (listUpdate_at (xs := #[]) (n := 0) (Heap.get?_push_size _ rfl) rfl ?g6 (Nat.zero_le _) room)
  refine wpAny_pure ?g7
  show wpAny (model prog w) A (do
      let c ← load s.heap.objs.size
      match c.data with
      | .seq zs _ => pure zs.toList
      | _ => unsupported "internal:collect") Q Ex { s with heap := (s.heap.push (seqObj "list" #[] 0)).update s.heap.objs.size (Obj.mapSeq (· ++ us.toArray)) }
  refine wpAny_bind (wpAny_load (get?_update_seq (Heap.get?_push_size _ rfl) _) ?g8)
  have e1 : ((#[] : Array Value) ++ us.toArray).toList = us := by simp
  show wpAny _ _ (pure ((#[] : Array Value) ++ us.toArray).toList) Q Ex _
  rw [e1]
  exact wpAny_pure q
theorem sorted_seq {tp : Addr} {us : List Value} {k : Nat} {ob : Obj} {ltv : Value → Value → Bool} {Q : Value → Shared → Prop} (O : Swo ltv) (hg : s.heap.get? tp = some ob) (hcl : ob.cls = .type "tuple") (hda : ob.data = .seq us.toArray k) (hus : us.length ≤ sizeLine)
    (hS : 2 ≤ us.length → ∀ (h1 : Heap) (b : Addr), SortableO prog w A.in1.in1 { s with heap := h1 } b us ltv)
    (q : ∀ out : List Value, Srtd ltv out → Stb ltv out us → Q (.ref (s.heap.objs.size + 1)) { s with heap := sortedAll s.heap us out.toArray }) :
    wpAny (model prog w) A (call (.builtin "sorted") [.ref tp]) Q Ex s := by
  refine Calls.call_function_entry kind_sorted plain_sorted entry_sorted (args_sorted1 _) ?_
  unfold Builtin.«sorted»
  refine wpAny_bind (m := checkCount "sorted" 1 1 _) (wpAny_pure ?_)
  refine wpAny_bind (collect_seq hg hcl hda ?_ hus)
  refine wpAny_bind (wpAny_newList ?_ hus)
  let H1 := (s.heap.push (seqObj "list" #[] 0)).update s.heap.objs.size (Obj.mapSeq (· ++ us.toArray))
  have z1 : H1.objs.size = s.heap.objs.size + 1 := by
    show ((s.heap.push (seqObj "list" #[] 0)).update s.heap.objs.size _).objs.size = _
    rw [Heap.size_update, size_push']
  have z2 : (H1.push (seqObj "list" us.toArray 0)).get? (s.heap.objs.size + 1) = some (seqObj "list" us.toArray 0) := by
    rw [← z1]
    exact Heap.get?_push_size _ rfl
  show wpAny _ _ _ _ _ { s with heap := H1.push (seqObj "list" us.toArray 0) }
  have z3 : ({ s with heap := H1 } : Shared).heap.objs.size = s.heap.objs.size + 1 := z1
  rw [z1]
  refine wpAny_bind (wpAny_holding (wpAny_call_entry slot_list_sort ⟨_, z2, rfl⟩ entry_list_sort (list_sort_ord O z2 hus (fun h2 => hS h2 _ _) fun out o1 o2 => ⟨_, rfl, ?_⟩) (args_list_sort _)))
  exact wpAny_pure ⟨_, rfl, q out o1 o2⟩
end
section
variable {X : Cx} {K : PySem.W.Frag}
def rSortedTu (K : PySem.W.Frag) : List V → Hp → VK → Prop := fun vs H Q => ∃ (a : Addr) (ns : List Int), vs = [V.ref a] ∧ SqT K H a (ns.map V.int) ∧
  ∀ (ms : List Int) (p : Addr), ms.Perm ns → ms.Pairwise (· ≤ ·) → H p = none → Q (.ref p) (upd H p (.lst (ms.map V.int)))
theorem cr_sortedTu : CallR X (.builtin "sorted") (rSortedTu X.K) := by
  intro pins s σ H vs us Q I r h
  obtain ⟨a, ns, rfl, hs, q⟩ := h
  obtain ⟨its, rv, hl, hz⟩ := I.tuple hs
  obtain ⟨ob, o1, o2, k, o3⟩ := hl
  rw [Vals.ref1 r]
  have hi := rv.ints
  refine sorted_seq swo_int o1 o2 o3 (by rw [← rv.length]; exact hz) (fun h2 _ _ => ints_sortable hi h2) fun out h1 h2 => ?_
  obtain ⟨k1, k2, k3⟩ := ints_out hi h1 h2
  obtain ⟨ep, hat⟩ := PyProof.Rows.sortedAll_at s.heap its out.toArray
  have hlen : ((out.map iv).map V.int).length ≤ sizeLine := by
    rw [List.length_map] at hz
    rw [List.length_map, k2.length_eq]
    exact hz
  refine ⟨.ref _, upd H (s.heap.objs.size + 1) (.lst ((out.map iv).map V.int)), ?_, rfl, q _ _ k2 k3 (I.hok.fresh (Nat.le_succ _))⟩
  exact I.laid (t' := s.toks) (fun _ _ => PyProof.Rows.sortedAll_old) (Nat.le_succ _) ⟨hlen, out, ep, vals_of_ints k1, hat⟩
end
theorem sortZ_of {ns ms : List Int} (h : ms.Perm ns) (s : ms.Pairwise (· ≤ ·)) : ms = sortZ ns := by
  have h1 : (sortZ ns).Pairwise (fun a b => decide (a ≤ b) = true) := List.pairwise_mergeSort (fun a b c h1 h2 => by simp at h1 h2 ⊢; omega) (fun a b => by simp; omega) ns
  have h2 : (sortZ ns).Pairwise (· ≤ ·) := h1.imp fun h => of_decide_eq_true h
  exact List.Perm.eq_of_pairwise (fun a b _ _ p q => by omega) s h2 (h.trans (List.mergeSort_perm ns _).symm)
end PX
/-! PX, part d: operations by values, further. -/
namespace PX
open PySem PySem.Spec PyProof.Rows L2

/-! ### comparisons -/
theorem Den.flat {K : PySem.W.Frag} {F : Hp} {v : V} {x : D} (h : Den K F v x) (e : flatD x = true) : flatV v = true := by
  cases h <;> first | rfl | cases e
theorem flat_eqv {K : PySem.W.Frag} {F : Hp} {v w : V} {x y : D} (hv : Den K F v x) (hw : Den K F w y) (fx : flatD x = true) (fy : flatD y = true) : eqV v w = PyData.eqv x y := by
  cases hv <;> cases hw <;> first | rfl | (simp [eqV, PyData.eqv] <;> done) | (cases fx) | (cases fy)
theorem flat_all {K : PySem.W.Frag} {F : Hp} : ∀ {vs : List V} {xs : List D}, DenL K F vs xs → xs.all flatD = true → vs.all flatV = true
  | _, _, .nil, _ => rfl
  | _, _, .cons h t, e => by
    simp only [List.all_cons, Bool.and_eq_true] at e ⊢
    exact ⟨h.flat e.1, flat_all t e.2⟩
theorem in_eqv {K : PySem.W.Frag} {F : Hp} {v : V} {x : D} (hv : Den K F v x) (fx : flatD x = true) : ∀ {vs : List V} {xs : List D}, DenL K F vs xs → xs.all flatD = true → inV v vs = inD x xs
  | _, _, .nil, _ => rfl
  | _, _, .cons h t, e => by
    simp only [List.all_cons, Bool.and_eq_true] at e
    have ih := in_eqv hv fx t e.2
    unfold inV inD at ih ⊢
    rw [List.any_cons, List.any_cons, ih, flat_eqv h hv e.1 fx]
section
variable {K : PySem.W.Frag} {c : FC}
def rCmp (K : PySem.W.Frag) : CmpOp → R2
  | .Eq => rEqD K
  | .NotEq => rNeD K
  | .Lt => rOr (rI0 fun i j => .bl (decide (i < j))) (rLtT K)
  | .Is => fun x y H Q => ∃ a b, x = .bl a ∧ y = .bl b ∧ Q (.bl (decide (a = b))) H
  | .IsNot => fun x y H Q => ∃ a b, x = .bl a ∧ y = .bl b ∧ Q (.bl (!decide (a = b))) H
  | .LtE => rI0 fun i j => .bl (decide (i ≤ j))
  | .Gt => rI0 fun i j => .bl (decide (j < i))
  | .GtE => rI0 fun i j => .bl (decide (j ≤ i))
  | .In => rOr (rIn K false) (rInT K false)
  | .NotIn => rOr (rIn K true) (rInT K true)
theorem cmp_ok {X : Cx} (hu : X.A.units + 65 < cLine) (op : CmpOp) : OpR X (compareOp op) (rCmp X.K op) := by
  cases op <;> first
    | exact op_eqD (by omega)
    | exact op_neD (by omega)
    | exact op_lt.or (op_ltT (by omega))
    | exact op_le
    | exact op_gt
    | exact op_ge
    | exact op_in_seq.or (op_inT hu)
    | exact op_notIn_seq.or (op_notInT hu)
    | exact op_is_bl
    | exact op_isnot_bl
theorem cmpV_ne : ∀ (op : CmpOp) (x y : D) (cn : String) (v : D) (ρ' : Env), cmpV op x y ≠ .ex cn v ρ' := by
  intro op x y cn v ρ' h
  unfold cmpV at h
  split at h <;> first | cases h | (split at h <;> first | cases h | (split at h <;> cases h))
theorem cmp_op {X : Cx} (op : CmpOp) : Op2 X.K c (rCmp X.K op) fun x y => (cmpV op x y).bind fun k => .ok (.d (.bool k)) := by
  intro σ ρ F H v w z z' x x' y Q S o1 o2 e1 e2 e3 q
  have sc : ∀ {k : Bool}, y = .d (.bool k) → Q (.bl k) H := fun {k} e => by subst e; exact q.bool S
  replace e3 : (cmpV op x x').bind (fun k => .ok (.d (.bool k))) = .ok y := e3
  cases e4 : cmpV op x x' with
  | bad => rw [e4] at e3; cases e3
  | ex cn v ρ' => rw [e4] at e3; cases e3
  | ok k =>
    rw [e4] at e3
    have ey : y = .d (.bool k) := by cases e3; rfl
    have qk := sc ey
    clear e3
    have inS : ∀ {xs : List D}, (x' = .list xs ∨ x' = .tuple xs) → (flatD x && xs.all flatD) = true → ∃ p vs, w = .ref p ∧ (SqL X.K H p vs ∨ SqT X.K H p vs) ∧ flatV v = true ∧ vs.all flatV = true ∧ inV v vs = inD x xs := fun {xs} hx hf => by
      obtain ⟨f1, f2⟩ := Bool.and_eq_true_iff.mp hf
      have dv := S.lookH o1 e1
      rcases hx with rfl | rfl
      · obtain ⟨a, vs, rfl, s1, d1⟩ := S.lookL o2 e2
        exact ⟨a, vs, rfl, .inl s1.sl, dv.flat f1, flat_all d1 f2, in_eqv dv f1 (d1.mono S.exF) f2⟩
      · obtain ⟨a, vs, rfl, s1, s2, d1⟩ := S.lookT o2 e2
        exact ⟨a, vs, rfl, .inr s2, dv.flat f1, flat_all d1 f2, in_eqv dv f1 (d1.mono S.exF) f2⟩
    unfold cmpV at e4
    split at e4
    · split at e4
      · rename_i hf
        obtain ⟨h1, h2⟩ := Bool.and_eq_true_iff.mp hf
        cases e4
        exact ⟨_, _, (S.lookH o1 e1).dp, (S.lookH o2 e2).dp, h1, h2, qk⟩
      · cases e4
    · split at e4
      · rename_i hf
        obtain ⟨h1, h2⟩ := Bool.and_eq_true_iff.mp hf
        cases e4
        exact ⟨_, _, (S.lookH o1 e1).dp, (S.lookH o2 e2).dp, h1, h2, qk⟩
      · cases e4
    · cases e4; exact .inl ⟨_, _, S.lookI o1 e1, S.lookI o2 e2, qk⟩
    · split at e4
      · rename_i h1 h2
        cases e4
        obtain ⟨a, vs, rfl, s1, s1', d1⟩ := S.lookT o1 e1
        obtain ⟨b, ws, rfl, s2, s2', d2⟩ := S.lookT o2 e2
        have v1 := d1.ints h1
        have v2 := d2.ints h2
        subst v1 v2
        exact .inr ⟨a, b, _, _, rfl, rfl, s1', s2', qk⟩
      · cases e4
    · cases e4; exact ⟨_, _, (S.lookH o1 e1).toBl, (S.lookH o2 e2).toBl, qk⟩
    · cases e4; exact ⟨_, _, (S.lookH o1 e1).toBl, (S.lookH o2 e2).toBl, qk⟩
    · cases e4; exact ⟨_, _, S.lookI o1 e1, S.lookI o2 e2, qk⟩
    · cases e4; exact ⟨_, _, S.lookI o1 e1, S.lookI o2 e2, qk⟩
    · cases e4; exact ⟨_, _, S.lookI o1 e1, S.lookI o2 e2, qk⟩
    · split at e4
      · rename_i hf
        obtain ⟨p, vs, rfl, s, f1, f2, ei⟩ := inS (.inl rfl) hf
        cases e4
        exact .inl ⟨p, vs, rfl, s, f1, f2, by rw [if_neg Bool.false_ne_true, ei]; exact qk⟩
      · split at e4
        · rename_i hf
          obtain ⟨h1, h2⟩ := Bool.and_eq_true_iff.mp hf
          cases e4
          exact .inr ⟨_, _, (S.lookH o1 e1).dp, .inl (S.lookH o2 e2).dp, h1, h2, qk⟩
        · cases e4
    · split at e4
      · rename_i hf
        obtain ⟨p, vs, rfl, s, f1, f2, ei⟩ := inS (.inr rfl) hf
        cases e4
        exact .inl ⟨p, vs, rfl, s, f1, f2, by rw [if_neg Bool.false_ne_true, ei]; exact qk⟩
      · split at e4
        · rename_i hf
          obtain ⟨h1, h2⟩ := Bool.and_eq_true_iff.mp hf
          cases e4
          exact .inr ⟨_, _, (S.lookH o1 e1).dp, .inr (S.lookH o2 e2).dp, h1, h2, qk⟩
        · cases e4
    · split at e4
      · rename_i hf
        obtain ⟨p, vs, rfl, s, f1, f2, ei⟩ := inS (.inl rfl) hf
        cases e4
        exact .inl ⟨p, vs, rfl, s, f1, f2, by rw [if_pos rfl, ei]; exact qk⟩
      · split at e4
        · rename_i hf
          obtain ⟨h1, h2⟩ := Bool.and_eq_true_iff.mp hf
          cases e4
          exact .inr ⟨_, _, (S.lookH o1 e1).dp, .inl (S.lookH o2 e2).dp, h1, h2, qk⟩
        · cases e4
    · split at e4
      · rename_i hf
        obtain ⟨p, vs, rfl, s, f1, f2, ei⟩ := inS (.inr rfl) hf
        cases e4
        exact .inl ⟨p, vs, rfl, s, f1, f2, by rw [if_pos rfl, ei]; exact qk⟩
      · split at e4
        · rename_i hf
          obtain ⟨h1, h2⟩ := Bool.and_eq_true_iff.mp hf
          cases e4
          exact .inr ⟨_, _, (S.lookH o1 e1).dp, .inr (S.lookH o2 e2).dp, h1, h2, qk⟩
        · cases e4
    · cases e4
end

/-! ### truth, None, - -/
section
variable {c : FC} {X : Cx}
theorem truthD_ne : ∀ (x : D) (cn : String) (v : D) (ρ' : Env), truthD x ≠ .ex cn v ρ' := by
  intro x cn v ρ' h
  unfold truthD at h
  split at h <;> cases h
theorem truth_of {K : PySem.W.Frag} {H : Hp} {v : V} {x : D} {k : Bool} (d : Den K H v x) (e : truthD x = .ok k) : TruV K v H k := by
  cases d with
  | non => cases e; rfl
  | bl b => cases e; rfl
  | int i => cases e; rfl
  | str x => cases e
  | lst h1 h2 =>
    cases e
    refine .inl ⟨_, h1.sl, ?_⟩
    cases h2 <;> rfl
  | tup h1 h2 =>
    cases e
    refine .inr (.inl ⟨_, h1, ?_⟩)
    cases h2 <;> rfl
theorem not_op : Op1 X.K c (fun v H Q => ∃ k, TruV X.K v H k ∧ Q (.bl (!k)) H) fun x => (truthD x).bind fun b => .ok (.d (.bool (!b))) := by
  intro σ ρ F H v z x y Q S o e e2 q
  replace e2 : (truthD x).bind (fun b => .ok (.d (.bool (!b)))) = .ok y := e2
  cases e3 : truthD x with
  | ok k => rw [e3] at e2; cases e2; exact ⟨k, truth_of (S.lookH o e) e3, q.bool S⟩
  | bad => rw [e3] at e2; cases e2
  | ex _ _ _ => exact absurd e3 (truthD_ne _ _ _ _)
theorem isNone_iff {K : PySem.W.Frag} {H : Hp} {v : V} {x : D} (d : Den K H v x) : decide (v = .non) = isNoneD x := by
  cases d <;> rfl
theorem isN_op : Op1 X.K c (fun v H Q => Q (.bl (decide (v = .non))) H) fun x => .ok (.d (.bool (isNoneD x))) := by
  intro σ ρ F H v z x y Q S o e e2 q
  cases e2
  show Q (.bl (decide (v = .non))) H
  rw [isNone_iff (S.lookH o e)]
  exact q.bool S
theorem notN_op : Op1 X.K c (fun v H Q => Q (.bl (!decide (v = .non))) H) fun x => .ok (.d (.bool (!isNoneD x))) := by
  intro σ ρ F H v z x y Q S o e e2 q
  cases e2
  show Q (.bl (!decide (v = .non))) H
  rw [isNone_iff (S.lookH o e)]
  exact q.bool S
theorem neg_op : Op1 X.K c (rU fun i => .int (-i)) negV := by
  intro σ ρ F H v z x y Q S o e e2 q
  unfold negV at e2
  split at e2
  · cases e2; exact ⟨_, S.lookI o e, q.int S⟩
  · cases e2
theorem negV_ne : ∀ (x : D) (cn : String) (v : D) (ρ' : Env), negV x ≠ .ex cn v ρ' := by
  intro x cn v ρ' h
  unfold negV at h
  split at h <;> cases h

/-! ### items, slices -/
theorem ix_op : Op2 X.K c (rIx X.K) ixV := by
  intro σ ρ F H v w z z' x x' y Q S o1 o2 e1 e2 e3 q
  unfold ixV at e3
  split at e3
  · split at e3
    · rename_i ha
      cases e3
      obtain ⟨a, vs, rfl, s1, d1⟩ := S.lookL o1 e1
      obtain ⟨u, g1, g2⟩ := d1.at_ ha
      exact .inl ⟨a, vs, _, u, rfl, S.lookI o2 e2, s1.sl, g1, q.same S g2⟩
    · cases e3
  · split at e3
    · rename_i ha
      cases e3
      obtain ⟨a, vs, rfl, s1, s2, d1⟩ := S.lookT o1 e1
      obtain ⟨u, g1, g2⟩ := d1.at_ ha
      exact .inr (.inl ⟨a, vs, _, u, rfl, S.lookI o2 e2, s2, g1, q.same S g2⟩)
    · cases e3
  · cases e3
theorem ixV_ne : ∀ (x y : D) (cn : String) (v : D) (ρ' : Env), ixV x y ≠ .ex cn v ρ' := by
  intro x y cn v ρ' h
  unfold ixV at h
  split at h <;> first | cases h | (split at h <;> cases h)
/-- a slice's rule by values -/
def rSlc (K : PySem.W.Frag) : V → Option Int → Option Int → Hp → VK → Prop := fun x lo hi H Q => rSlL K x lo hi H Q ∨ rSlA K x lo hi H Q
theorem slc_ok : SlR X (rSlc X.K) := sl_list.or sl_tupA
theorem cutV_whole {xs : List V} {lo hi : Option Int} (h : HT.sIx xs.length 0 lo = 0 ∧ HT.sIx xs.length xs.length hi = xs.length) : cutV xs lo hi = xs := by
  unfold cutV
  rw [h.1, h.2]
  simp
theorem sl_op (lo hi : Option Int) : Op1 X.K c (fun v H Q => rSlc X.K v lo hi H Q) fun x => slV x lo hi := by
  intro σ ρ F H v z x y Q S o e e2 q
  replace e2 : slV x lo hi = .ok y := e2
  unfold slV at e2
  split at e2
  · cases e2
    obtain ⟨a, vs, rfl, s1, d1⟩ := S.lookL o e
    exact .inl ⟨a, vs, rfl, s1.sl, fun p hp => q.newL S hp (Nat.le_trans (cutV_length vs lo hi) (S.hl.1 a vs s1.sl)) (d1.cut lo hi)⟩
  · cases e2
    obtain ⟨a, vs, rfl, s1, s2, d1⟩ := S.lookT o e
    refine .inr ⟨a, vs, rfl, s2, fun hw => ?_, fun _ p hp => q.newT S hp (Nat.le_trans (cutV_length vs lo hi) (S.hl.2 a vs s2)) (d1.cut lo hi)⟩
    refine q.same S (.tup s1 ?_)
    have := d1.cut lo hi
    rw [cutV_whole hw] at this
    exact this
  · cases e2
theorem slV_ne : ∀ (x : D) (lo hi : Option Int) (cn : String) (v : D) (ρ' : Env), slV x lo hi ≠ .ex cn v ρ' := by
  intro x lo hi cn v ρ' h
  unfold slV at h
  split at h <;> cases h

/-! ### built-ins -/
theorem ORL.one {K : PySem.W.Frag} {F : Hp} {σ : St} {ρ : Env} {vs : List V} {zs : List Val} {x : D} (h : ORL K F σ vs zs) (e : lookL ρ zs = some [x]) : ∃ v z, vs = [v] ∧ OR K F σ v z ∧ look ρ z = some x := by
  cases h with
  | nil => cases e
  | cons h1 h2 =>
    unfold lookL at e
    split at e
    · cases e
    · rename_i d hd
      split at e
      · cases e
      · rename_i ds hds
        cases e
        cases h2 with
        | nil => exact ⟨_, _, rfl, h1, hd⟩
        | cons _ _ =>
          unfold lookL at hds
          split at hds
          · cases hds
          · split at hds <;> cases hds
theorem lookL_cons {ρ : Env} {z : Val} {zs : List Val} {xs : List D} (e : lookL ρ (z :: zs) = some xs) : ∃ x ys, xs = x :: ys ∧ look ρ z = some x ∧ lookL ρ zs = some ys := by
  unfold lookL at e
  split at e
  · cases e
  · rename_i d hd
    split at e
    · cases e
    · rename_i ds hds
      cases e
      exact ⟨_, _, rfl, hd, hds⟩
theorem ORL.two {K : PySem.W.Frag} {F : Hp} {σ : St} {ρ : Env} {vs : List V} {zs : List Val} {x y : D} (h : ORL K F σ vs zs) (e : lookL ρ zs = some [x, y]) :
    ∃ v w z z', vs = [v, w] ∧ OR K F σ v z ∧ look ρ z = some x ∧ OR K F σ w z' ∧ look ρ z' = some y := by
  cases h with
  | nil => cases e
  | cons h1 h2 =>
    obtain ⟨x1, ys, e1, e2, e3⟩ := lookL_cons e
    cases e1
    obtain ⟨v, z, rfl, h3, h4⟩ := h2.one e3
    exact ⟨_, _, _, _, rfl, h1, e2, h3, h4⟩
abbrev RL := List V → Hp → VK → Prop
def lOr (r r' : RL) : RL := fun xs H Q => r xs H Q ∨ r' xs H Q
def rBi (K : PySem.W.Frag) : Bi → RL
  | .len => fun xs H Q => ∃ x n, xs = [x] ∧ LenV K x H n ∧ Q (.int n) H
  | .all => rAll K
  | .any => rAny K
  | .tuple => fun xs H Q => ∃ p ys, xs = [.ref p] ∧ ((SqL K H p ys ∧ ∀ l, H l = none → Q (.ref l) (upd H l (.tup ys))) ∨ (SqT K H p ys ∧ Q (.ref p) H))
  | .list => fun xs H Q => ∃ p ys, xs = [.ref p] ∧ (SqL K H p ys ∨ SqT K H p ys) ∧ ∀ l, H l = none → Q (.ref l) (upd H l (.lst ys))
  | .int => fun xs H Q => (∃ i, xs = [.int i] ∧ Q (.int i) H) ∨ ∃ k, xs = [.bl k] ∧ Q (.int (if k then 1 else 0)) H
  | .sum => rSum K
  | .min => fun xs H Q => (∃ i j, xs = [.int i, .int j] ∧ Q (.int (if j < i then j else i)) H) ∨ rMin K xs H Q
  | .max => fun xs H Q => (∃ i j, xs = [.int i, .int j] ∧ Q (.int (if j > i then j else i)) H) ∨ rMax K xs H Q
  | .abs => fun xs H Q => ∃ i, xs = [.int i] ∧ Q (.int (if i < 0 then -i else i)) H
  | .sorted => fun xs H Q => rSortedI K xs H Q ∨ rSortedTu K xs H Q
def biName : Bi → Str
  | .len => "len" | .all => "all" | .any => "any" | .tuple => "tuple" | .list => "list" | .int => "int" | .sum => "sum" | .min => "min" | .max => "max" | .abs => "abs" | .sorted => "sorted"
def biTy : Bi → Bool
  | .tuple | .list | .int => true
  | _ => false
def biVal (b : Bi) : Value := if biTy b then .type (match b with | .tuple => "tuple" | .list => "list" | _ => "int") else .builtin (match b with | .len => "len" | .all => "all" | .any => "any" | .sum => "sum" | .min => "min" | .max => "max" | .sorted => "sorted" | _ => "abs")
theorem bi_ok (hc : X.calm = true) (b : Bi) : CallR X (biVal b) (rBi X.K b) := by
  cases b
  · exact call_len
  · exact cr_all hc
  · exact cr_any hc
  · exact call_tuple_of
  · exact call_list_of
  · exact call_int1
  · exact cr_sum hc
  · intro pins s σ H vs us Q I r h
    exact h.elim (call_min2 hc pins s σ H vs us Q I r) (cr_min hc pins s σ H vs us Q I r)
  · intro pins s σ H vs us Q I r h
    exact h.elim (call_max2 hc pins s σ H vs us Q I r) (cr_max hc pins s σ H vs us Q I r)
  · exact call_abs
  · intro pins s σ H vs us Q I r h
    rcases h with h | h
    · exact cr_sortedI pins s σ H vs us Q I r h
    · exact cr_sortedTu pins s σ H vs us Q I r h
theorem bi_boot (b : Bi) : bootBuiltins (biName b) = some (biVal b) := by
  cases b <;> decide +kernel
theorem biV_ne : ∀ (b : Bi) (xs : List D) (cn : String) (v : D) (ρ' : Env), biV b xs ≠ .ex cn v ρ' := by
  intro b xs cn v ρ' h
  unfold biV at h
  split at h <;> first | cases h | (split at h <;> cases h)
theorem denL_of_ints {K : PySem.W.Frag} {F : Hp} : ∀ ns : List Int, DenL K F (ns.map V.int) (ns.map PyData.int)
  | [] => .nil
  | n :: ns => .cons (.int n) (denL_of_ints ns)
theorem leastZ_mem : ∀ (ns : List Int) (n : Int), leastZ n ns ∈ n :: ns
  | [], n => List.mem_cons_self
  | k :: ns, n => by
    have := leastZ_mem ns (if k < n then k else n)
    unfold leastZ
    rcases List.mem_cons.mp this with e | e
    · rw [e]; split
      · exact List.mem_cons_of_mem _ List.mem_cons_self
      · exact List.mem_cons_self
    · exact List.mem_cons_of_mem _ (List.mem_cons_of_mem _ e)
theorem leastZ_le : ∀ (ns : List Int) (n y : Int), y ∈ n :: ns → leastZ n ns ≤ y
  | [], n, y, h => by rw [List.mem_singleton.mp h]; exact Int.le_refl _
  | k :: ns, n, y, h => by
    unfold leastZ
    have h0 := leastZ_le ns (if k < n then k else n) (if k < n then k else n) List.mem_cons_self
    have ih := leastZ_le ns (if k < n then k else n)
    have hz : (if k < n then k else n) ≤ k ∧ (if k < n then k else n) ≤ n := by split <;> omega
    generalize (if k < n then k else n) = z at h0 hz ih ⊢
    rcases List.mem_cons.mp h with e | h
    · subst e; omega
    · rcases List.mem_cons.mp h with e | h
      · subst e; omega
      · exact ih y (List.mem_cons_of_mem _ h)
theorem greatZ_mem : ∀ (ns : List Int) (n : Int), greatZ n ns ∈ n :: ns
  | [], n => List.mem_cons_self
  | k :: ns, n => by
    have := greatZ_mem ns (if k > n then k else n)
    unfold greatZ
    rcases List.mem_cons.mp this with e | e
    · rw [e]; split
      · exact List.mem_cons_of_mem _ List.mem_cons_self
      · exact List.mem_cons_self
    · exact List.mem_cons_of_mem _ (List.mem_cons_of_mem _ e)
theorem greatZ_le : ∀ (ns : List Int) (n y : Int), y ∈ n :: ns → y ≤ greatZ n ns
  | [], n, y, h => by rw [List.mem_singleton.mp h]; exact Int.le_refl _
  | k :: ns, n, y, h => by
    unfold greatZ
    have h0 := greatZ_le ns (if k > n then k else n) (if k > n then k else n) List.mem_cons_self
    have ih := greatZ_le ns (if k > n then k else n)
    have hz : (if k > n then k else n) ≥ k ∧ (if k > n then k else n) ≥ n := by split <;> omega
    generalize (if k > n then k else n) = z at h0 hz ih ⊢
    rcases List.mem_cons.mp h with e | h
    · subst e; omega
    · rcases List.mem_cons.mp h with e | h
      · subst e; omega
      · exact ih y (List.mem_cons_of_mem _ h)
theorem bi_op (b : Bi) : OpL X.K c (rBi X.K b) (biV b) := by
  intro σ ρ F H vs zs xs y Q S o e e2 q
  unfold biV at e2
  split at e2
  · cases e2
    obtain ⟨v, z, rfl, o1, e1⟩ := o.one e
    obtain ⟨a, vs, rfl, s1, d1⟩ := S.lookL o1 e1
    exact ⟨_, _, rfl, .inl ⟨vs, s1.sl, d1.length.symm⟩, q.int S⟩
  · cases e2
    obtain ⟨v, z, rfl, o1, e1⟩ := o.one e
    obtain ⟨a, vs, rfl, s1, s2, d1⟩ := S.lookT o1 e1
    exact ⟨_, _, rfl, .inr ⟨vs, s2, d1.length.symm⟩, q.int S⟩
  · split at e2
    · rename_i hb
      cases e2
      obtain ⟨v, z, rfl, o1, e1⟩ := o.one e
      obtain ⟨a, vs, rfl, s1, d1⟩ := S.lookL o1 e1
      have := d1.bools hb
      subst this
      exact ⟨a, _, rfl, s1.sl, q.bool S⟩
    · cases e2
  · split at e2
    · rename_i hb
      cases e2
      obtain ⟨v, z, rfl, o1, e1⟩ := o.one e
      obtain ⟨a, vs, rfl, s1, d1⟩ := S.lookL o1 e1
      have := d1.bools hb
      subst this
      exact ⟨a, _, rfl, s1.sl, q.bool S⟩
    · cases e2
  · cases e2
    obtain ⟨v, z, rfl, o1, e1⟩ := o.one e
    obtain ⟨a, vs, rfl, s1, d1⟩ := S.lookL o1 e1
    exact ⟨a, vs, rfl, .inl ⟨s1.sl, fun p hp => q.newT S hp (S.hl.1 a vs s1.sl) d1⟩⟩
  · cases e2
    obtain ⟨v, z, rfl, o1, e1⟩ := o.one e
    obtain ⟨a, vs, rfl, s1, s2, d1⟩ := S.lookT o1 e1
    exact ⟨a, vs, rfl, .inr ⟨s2, q.same S (.tup s1 d1)⟩⟩
  · cases e2
    obtain ⟨v, z, rfl, o1, e1⟩ := o.one e
    obtain ⟨a, vs, rfl, s1, d1⟩ := S.lookL o1 e1
    exact ⟨a, vs, rfl, .inl s1.sl, fun p hp => q.newL S hp (S.hl.1 a vs s1.sl) d1⟩
  · cases e2
    obtain ⟨v, z, rfl, o1, e1⟩ := o.one e
    obtain ⟨a, vs, rfl, s1, s2, d1⟩ := S.lookT o1 e1
    exact ⟨a, vs, rfl, .inr s2, fun p hp => q.newL S hp (S.hl.2 a vs s2) d1⟩
  · cases e2
    obtain ⟨v, z, rfl, o1, e1⟩ := o.one e
    exact .inl ⟨_, by rw [S.lookI o1 e1], q.int S⟩
  · cases e2
    obtain ⟨v, z, rfl, o1, e1⟩ := o.one e
    exact .inr ⟨_, by rw [(S.lookH o1 e1).toBl], q.int S⟩
  · cases e2
    obtain ⟨v, z, rfl, o1, e1⟩ := o.one e
    exact ⟨_, by rw [S.lookI o1 e1], q.int S⟩
  · cases e2
    obtain ⟨v, w, z, z', rfl, o1, e1, o2, e3⟩ := o.two e
    exact .inl ⟨_, _, by rw [S.lookI o1 e1, S.lookI o2 e3], q.int S⟩
  · cases e2
    obtain ⟨v, w, z, z', rfl, o1, e1, o2, e3⟩ := o.two e
    exact .inl ⟨_, _, by rw [S.lookI o1 e1, S.lookI o2 e3], q.int S⟩
  · split at e2
    · rename_i hb
      cases e2
      obtain ⟨v, z, rfl, o1, e1⟩ := o.one e
      obtain ⟨a, vs, rfl, s1, d1⟩ := S.lookL o1 e1
      have := d1.ints hb
      subst this
      refine .inr ⟨a, _, rfl, s1.sl, by simp, fun m h1 h2 => ?_⟩
      have e5 := h2 _ (greatZ_mem _ _)
      have e6 := greatZ_le _ _ _ h1
      have e7 := Int.le_antisymm e6 e5
      rw [e7]
      exact q.int S
    · cases e2
  · split at e2
    · rename_i hb
      cases e2
      obtain ⟨v, z, rfl, o1, e1⟩ := o.one e
      obtain ⟨a, vs, rfl, s1, d1⟩ := S.lookL o1 e1
      have := d1.ints hb
      subst this
      refine .inr ⟨a, _, rfl, s1.sl, by simp, fun m h1 h2 => ?_⟩
      have e5 := h2 _ (leastZ_mem _ _)
      have e6 := leastZ_le _ _ _ h1
      have e7 := Int.le_antisymm e5 e6
      rw [e7]
      exact q.int S
    · cases e2
  · split at e2
    · rename_i hb
      cases e2
      obtain ⟨v, z, rfl, o1, e1⟩ := o.one e
      obtain ⟨a, vs, rfl, s1, d1⟩ := S.lookL o1 e1
      have := d1.ints hb
      subst this
      exact ⟨a, _, rfl, s1.sl, q.int S⟩
    · cases e2
  · split at e2
    · rename_i hb
      cases e2
      obtain ⟨v, z, rfl, o1, e1⟩ := o.one e
      obtain ⟨a, vs, rfl, s1, d1⟩ := S.lookL o1 e1
      have hz := S.hl.1 a vs s1.sl
      have hv := d1.ints hb
      subst hv
      refine .inl ⟨a, _, rfl, s1.sl, fun ms p h1 h2 hp => ?_⟩
      have em := sortZ_of h1 h2
      subst em
      exact q.newL S hp (by rw [List.length_map, h1.length_eq, ← List.length_map (f := V.int)]; exact hz) (denL_of_ints _)
    · cases e2
  · split at e2
    · rename_i hb
      cases e2
      obtain ⟨v, z, rfl, o1, e1⟩ := o.one e
      obtain ⟨a, vs, rfl, s0, s1, d1⟩ := S.lookT o1 e1
      have hz := S.hl.2 a vs s1
      have hv := d1.ints hb
      subst hv
      refine .inr ⟨a, _, rfl, s1, fun ms p h1 h2 hp => ?_⟩
      have em := sortZ_of h1 h2
      subst em
      exact q.newL S hp (by rw [List.length_map, h1.length_eq, ← List.length_map (f := V.int)]; exact hz) (denL_of_ints _)
    · cases e2
  · cases e2

/-! ### isinstance of built-in kinds -/
def tyName : Ty → String
  | .int => "int" | .bool => "bool" | .str => "str" | .tuple => "tuple" | .list => "list"
/-- the kind of data -/
inductive Kd where
  | non | bl | int | str | lst | tup
def kdName : Kd → String
  | .non => "NoneType" | .bl => "bool" | .int => "int" | .str => "str" | .lst => "list" | .tup => "tuple"
def kdOf : D → Kd
  | .bool _ => .bl | .int _ => .int | .str _ => .str | .list _ => .lst | .tuple _ => .tup | _ => .non
def isKd : Ty → Kd → Bool
  | .int, .int => true
  | .int, .bl => true
  | .bool, .bl => true
  | .str, .str => true
  | .tuple, .tup => true
  | .list, .lst => true
  | _, _ => false
theorem isTy_kd (t : Ty) (x : D) : isTy t x = isKd t (kdOf x) := by
  cases t <;> cases x <;> rfl
theorem kit_is (t : Ty) (k : Kd) : kitB (kdName k) (tyName t) = some (isKd t k) := by
  cases t <;> cases k <;> (show kitB _ _ = some _; decide +kernel)
theorem tyx_of {K : PySem.W.Frag} {H : Hp} {v : V} {x : D} (d : Den K H v x) : TyX K H v (.type (kdName (kdOf x))) := by
  cases d with
  | non => exact .base .non
  | bl b => exact .base (.bl b)
  | int i => exact .base (.int i)
  | str x => exact .base (.str x)
  | lst h1 h2 =>
    rcases h1 with (h1 | ⟨o, h1⟩) | ⟨its, n, h1, _⟩
    · exact .base (.lst h1)
    · exact .base (.frz h1)
    · exact .kList h1 rfl
  | tup h1 h2 =>
    rcases h1 with (h1 | ⟨o, h1⟩) | ⟨o, its, n, hk, hc, _⟩
    · exact .base (.tup h1)
    · exact .fTuple h1
    · exact .kTuple hk hc
/-- the second argument is the class -/
theorem lenSetV_ne (x : D) (cn : String) (v : D) (ρ' : Env) : lenSetV x ≠ .ex cn v ρ' := by
  intro h
  unfold lenSetV at h
  split at h
  · split at h
    · split at h <;> cases h
    · cases h
  · cases h
theorem sortSetV_ne (x : D) (cn : String) (v : D) (ρ' : Env) : sortSetV x ≠ .ex cn v ρ' := by
  intro h
  unfold sortSetV at h
  split at h
  · split at h
    · split at h <;> cases h
    · cases h
  · cases h
theorem lenSet_op : Op1 X.K c (fun v H Q => ∃ (l : Addr) (ns : List Int), v = V.ref l ∧ (SqL X.K H l (ns.map V.int) ∨ SqT X.K H l (ns.map V.int)) ∧ ns.length ≤ 1000 ∧ Q (.int ((dedupZ ns).length : Nat)) H) lenSetV := by
  intro σ ρ F H v z x y Q S o e e2 q
  unfold lenSetV at e2
  split at e2
  · rename_i xs hs
    split at e2
    · rename_i ns hn
      split at e2
      · rename_i hl
        cases e2
        unfold seqOf at hs
        split at hs
        · cases hs
          obtain ⟨a, vs, rfl, s1, d1⟩ := S.lookL o e
          have := d1.ints hn
          subst this
          exact ⟨a, _, rfl, .inl s1.sl, hl, q.int S⟩
        · cases hs
          obtain ⟨a, vs, rfl, s1, s2, d1⟩ := S.lookT o e
          have := d1.ints hn
          subst this
          exact ⟨a, _, rfl, .inr s2, hl, q.int S⟩
        · cases hs
      · cases e2
    · cases e2
  · cases e2
theorem sortSet_op : Op1 X.K c (fun v H Q => ∃ (l : Addr) (ns : List Int), v = V.ref l ∧ SqT X.K H l (ns.map V.int) ∧ ns.length < 64 ∧ ∀ p : Addr, H p = none → Q (.ref p) (upd H p (.lst ((setZ ns).map V.int)))) sortSetV := by
  intro σ ρ F H v z x y Q S o e e2 q
  unfold sortSetV at e2
  split at e2
  · split at e2
    · rename_i ns hn
      split at e2
      · rename_i hl
        cases e2
        obtain ⟨a, vs, rfl, s1, s2, d1⟩ := S.lookT o e
        have := d1.ints hn
        subst this
        refine ⟨a, _, rfl, s2, hl, fun p hp => q.newL S hp ?_ (denL_of_ints _)⟩
        have h1 : (setZ ns).length = (dedupZ ns).length := (List.mergeSort_perm _ _).length_eq
        have h2 := firstMet_len ns
        have h3 := firstMet_length_le (fun i => ns.getD i 0) ns.length
        rw [List.length_map, h1, sizeLine_eq]
        omega
      · cases e2
    · cases e2
  · cases e2
theorem isi_op (t : Ty) : Op1 X.K c (fun v H Q => rIsi X.K [v, .ty (tyName t)] H Q) fun x => .ok (.d (.bool (isTy t x))) := by
  intro σ ρ F H v z x y Q S o e e2 q
  cases e2
  rw [isTy_kd] at q
  exact ⟨v, .ty (tyName t), _, _, _, rfl, .ty _, tyx_of (S.lookH o e), kit_ty (kit_is t (kdOf x)), q.bool S⟩
theorem kit_any (K : PySem.W.Frag) (t t2 : Ty) (k : Kd) : PySem.W.kitAny K (.type (kdName k)) [.type (tyName t), .type (tyName t2)] = some (isKd t k || isKd t2 k) := by
  have h1 : PySem.W.kitOne K (.type (kdName k)) (.type (tyName t)) = some (isKd t k) := kit_ty (kit_is t k)
  have h2 : PySem.W.kitOne K (.type (kdName k)) (.type (tyName t2)) = some (isKd t2 k) := kit_ty (kit_is t2 k)
  unfold PySem.W.kitAny PySem.W.kitAny PySem.W.kitAny
  rw [h1, h2]
  cases isKd t k <;> cases isKd t2 k <;> rfl
theorem isi2_op (t t2 : Ty) : Op1 X.K c (fun v H Q => ∀ tp, H tp = none → rIsiT X.K [v, .ref tp] (upd H tp (.tup [.ty (tyName t), .ty (tyName t2)])) Q) fun x => .ok (.d (.bool (isTy t x || isTy t2 x))) := by
  intro σ ρ F H v z x y Q S o e e2 q tp htp
  cases e2
  have S2 := S.laid (o := .tup [.ty (tyName t), .ty (tyName t2)]) htp (S.hl.updT (p := tp) (by show 2 ≤ sizeLine; decide))
  rw [isTy_kd, isTy_kd] at q
  exact ⟨v, tp, _, _, [.type (tyName t), .type (tyName t2)], _, rfl, upd_same, .cons (.ty _) (.cons (.ty _) .nil), tyx_of (S2.lookH o e), kit_any X.K t t2 _, q F _ _ S2 (.laid htp) (.bl _)⟩
end
end PX
/-! PX, part e: calls. -/
namespace PX
open PySem PySem.Spec PyProof.Rows L2

/-! ### a def's promise -/
inductive ArgsR (K : PySem.W.Frag) (B H : Hp) : List V → List Arg → List Addr → Prop
  | nil : ArgsR K B H [] [] []
  | fz {v : V} {d : D} {vs : List V} {as : List Arg} {io : List Addr} : Den K B v d → ArgsR K B H vs as io → ArgsR K B H (v :: vs) (.fz d :: as) io
  | io {a : Addr} {ws : List V} {xs : List D} {vs : List V} {as : List Arg} {io : List Addr} : H a = some (.lst ws) → B a = none → DenL K B ws xs → ArgsR K B H vs as io → ArgsR K B H (.ref a :: vs) (.io xs :: as) (a :: io)
theorem ArgsR.length {K : PySem.W.Frag} {B H : Hp} : ∀ {vs : List V} {as : List Arg} {io : List Addr}, ArgsR K B H vs as io → vs.length = as.length
  | _, _, _, .nil => rfl
  | _, _, _, .fz _ t => congrArg Nat.succ (ArgsR.length t)
  | _, _, _, .io _ _ _ t => congrArg Nat.succ (ArgsR.length t)
inductive OutR (K : PySem.W.Frag) (F H : Hp) : List Addr → List (List D) → Prop
  | nil : OutR K F H [] []
  | cons {a : Addr} {ws : List V} {xs : List D} {io : List Addr} {xss : List (List D)} : H a = some (.lst ws) → F a = none → DenL K F ws xs → OutR K F H io xss → OutR K F H (a :: io) (xs :: xss)
def RetV (K : PySem.W.Frag) (H F' H' : Hp) (v : V) : Val → Prop
  | .d x => Den K F' v x
  | .fr xs => ∃ a ws, v = .ref a ∧ H' a = some (.lst ws) ∧ F' a = none ∧ H a = none ∧ DenL K F' ws xs
  | .own _ => False
structure BackR (K : PySem.W.Frag) (B H : Hp) (io : List Addr) (F' H' : Hp) (v : V) (r : Ret) : Prop where
  exB : Sm B F'
  dom : ∀ a o, F' a = some o → B a = some o ∨ H a = none
  exF : Sm F' H'
  keep : ∀ a o, H a = some o → a ∉ io → H' a = some o
  hl : HLen K H'
  outs : OutR K F' H' io r.2
  val : RetV K H F' H' v r.1
def spF (K : PySem.W.Frag) (call : CallT) (f : String) : Sp := fun vs H Q _ => ∃ (as : List Arg) (B : Hp) (io : List Addr) (r : Ret), ArgsR K B H vs as io ∧ Sm B H ∧ HLen K H ∧ io.Nodup ∧ call f as = .ok r ∧
  ∀ F' H' v, BackR K B H io F' H' v r → Q v H'

/-! ### the caller -/
theorem putBack_len : ∀ {is : List Nat} {xss : List (List D)} {ρ ρ' : Env}, putBack ρ is xss = some ρ' → ρ'.length = ρ.length
  | [], [], ρ, ρ', h => by cases h; rfl
  | i :: is, xs :: xss, ρ, ρ', h => by
    unfold putBack at h
    split at h
    · rw [putBack_len h, List.length_set]
    · rw [putBack_len h, List.length_set]
    · cases h
  | [], _ :: _, _, _, h => by cases h
  | _ :: _, [], _, _, h => by cases h
/-- a slot behind the handing back: as it was, or its list changed -/
theorem putBack_slot : ∀ {is : List Nat} {xss : List (List D)} {ρ ρ' : Env}, is.Nodup → putBack ρ is xss = some ρ' → ∀ i : Nat,
    (i ∉ is ∧ slot ρ' i = slot ρ i) ∨ ∃ (k : Nat) (xs : List D), is[k]? = some i ∧ xss[k]? = some xs ∧ (((∃ ys, slot ρ i = .ow ys) ∧ slot ρ' i = .ow xs) ∨ ((∃ ys, slot ρ i = .io ys) ∧ slot ρ' i = .io xs))
  | [], [], ρ, ρ', _, h, i => by cases h; exact .inl ⟨by simp, rfl⟩
  | j :: is, xs :: xss, ρ, ρ', nd, h, i => by
    obtain ⟨nj, nd2⟩ := List.nodup_cons.mp nd
    have step : ∀ (s : Slot), j < ρ.length → isOwn s = true → slot (ρ.set j s) j = s → putBack (ρ.set j s) is xss = some ρ' → (∀ s', slot ρ' j = s' → s' = s → ((∃ ys, slot ρ j = .ow ys) ∧ s' = .ow xs) ∨ ((∃ ys, slot ρ j = .io ys) ∧ s' = .io xs)) →
        (i ∉ j :: is ∧ slot ρ' i = slot ρ i) ∨ ∃ (k : Nat) (ys : List D), (j :: is)[k]? = some i ∧ (xs :: xss)[k]? = some ys ∧ (((∃ zs, slot ρ i = .ow zs) ∧ slot ρ' i = .ow ys) ∨ ((∃ zs, slot ρ i = .io zs) ∧ slot ρ' i = .io ys)) := fun s hj hs es hp hk => by
      by_cases e : i = j
      · subst e
        rcases putBack_slot (is := is) (xss := xss) nd2 hp i with ⟨_, q⟩ | ⟨k, ys, q, _⟩
        · rw [es] at q
          exact .inr ⟨0, xs, rfl, rfl, hk _ rfl q⟩
        · exact absurd (List.mem_of_getElem? q) nj
      · have e2 : slot (ρ.set j s) i = slot ρ i := by rw [slot_set, if_neg (fun z => e z.1.symm)]
        rcases putBack_slot (is := is) (xss := xss) nd2 hp i with ⟨n, q⟩ | ⟨k, ys, q1, q2, q3⟩
        · exact .inl ⟨by simp [e, n], q.trans e2⟩
        · rw [e2] at q3
          exact .inr ⟨k + 1, ys, by simpa using q1, by simpa using q2, q3⟩
    unfold putBack at h
    split at h
    · rename_i ys hk
      have hj : j < ρ.length := slot_lt (by rw [hk]; intro z; cases z)
      exact step (.ow xs) hj rfl (by rw [slot_set, if_pos ⟨rfl, hj⟩]) h fun s' _ e => .inl ⟨⟨_, hk⟩, e⟩
    · rename_i ys hk
      have hj : j < ρ.length := slot_lt (by rw [hk]; intro z; cases z)
      exact step (.io xs) hj rfl (by rw [slot_set, if_pos ⟨rfl, hj⟩]) h fun s' _ e => .inr ⟨⟨_, hk⟩, e⟩
    · cases h
  | [], _ :: _, _, _, _, h, _ => by cases h
  | _ :: _, [], _, _, _, h, _ => by cases h
theorem putBack_own {is : List Nat} {xss : List (List D)} {ρ ρ' : Env} (nd : is.Nodup) (h : putBack ρ is xss = some ρ') (i : Nat) : isOwn (slot ρ' i) = isOwn (slot ρ i) := by
  rcases putBack_slot nd h i with ⟨_, q⟩ | ⟨_, _, _, _, ⟨⟨ys, a⟩, b⟩ | ⟨⟨ys, a⟩, b⟩⟩
  · rw [q]
  · rw [a, b]; rfl
  · rw [a, b]; rfl
theorem OutR.get {K : PySem.W.Frag} {F H : Hp} : ∀ {io : List Addr} {xss : List (List D)} {k : Nat} {xs : List D}, OutR K F H io xss → xss[k]? = some xs → ∃ a ws, io[k]? = some a ∧ H a = some (.lst ws) ∧ F a = none ∧ DenL K F ws xs
  | _, _, _, _, .nil, e => by simp at e
  | _, _, 0, _, .cons h1 h2 h3 _, e => by simp at e; subst e; exact ⟨_, _, rfl, h1, h2, h3⟩
  | _, _, k + 1, xs, .cons _ _ _ t, e => by
    obtain ⟨a, ws, e1, e2⟩ := OutR.get (k := k) (xs := xs) t (by simpa using e)
    exact ⟨a, ws, by simpa using e1, e2⟩
theorem OutR.mem {K : PySem.W.Frag} {F H : Hp} {a : Addr} : ∀ {io : List Addr} {xss : List (List D)}, OutR K F H io xss → a ∈ io → ∃ ws, H a = some (.lst ws)
  | _, _, .nil, e => by simp at e
  | _, _, .cons h1 _ _ t, e => by
    rcases List.mem_cons.mp e with rfl | e
    · exact ⟨_, h1⟩
    · exact OutR.mem t e

section
variable {K : PySem.W.Frag} {c : FC} {F H : Hp} {σ : St} {ρ : Env}
/-- the lists that are handed over, by their places -/
theorem hand_ok (S : SR K c F H σ ρ) {B : Hp} (hB : Sm F B) {lent : List Nat} : ∀ {zs : List Val} {vs : List V} {as : List Arg} (j : Nat), ORL K F σ vs zs → handOver ρ lent j zs = some as →
    (∀ i, i ∈ shownAt ρ lent j zs → ∀ a ws, σ[i]? = some (some (.ref a)) → H a = some (.lst ws) → B a = some (.lst ws)) → (∀ i, i ∈ lentAt lent j zs → ∀ a, σ[i]? = some (some (.ref a)) → B a = none) →
    ∃ io, ArgsR K B H vs as io ∧ io.length = (lentAt lent j zs).length ∧ ∀ (k i : Nat), (lentAt lent j zs)[k]? = some i → ∃ a, io[k]? = some a ∧ σ[i]? = some (some (.ref a)) ∧ isOwn (slot ρ i) = true := by
  intro zs
  induction zs with
  | nil =>
    intro vs as j h e _ _
    cases h
    cases e
    exact ⟨[], .nil, rfl, fun k i e => by simp [lentAt] at e⟩
  | cons z zs ih =>
    intro vs as j h e hs hl
    cases h with
    | @cons v vs _ _ h1 h2 =>
      unfold handOver at e
      cases er : handOver ρ lent (j + 1) zs with
      | none => rw [er] at e; cases e
      | some as' =>
        rw [er] at e
        cases z with
        | fr xs => exact h1.elim
        | d x =>
          have e1 : shownAt ρ lent j (.d x :: zs) = shownAt ρ lent (j + 1) zs := rfl
          have e2 : lentAt lent j (.d x :: zs) = lentAt lent (j + 1) zs := rfl
          rw [e1] at hs
          rw [e2] at hl ⊢
          obtain ⟨io, q1, q2, q3⟩ := ih (j + 1) h2 er hs hl
          cases hc : lent.contains j with
          | true =>
            simp only [hc, if_true] at e; cases e
          | false =>
            simp only [hc, Bool.false_eq_true, if_false] at e
            cases e
            exact ⟨io, .fz (h1.mono hB) q1, q2, q3⟩
        | own i =>
          have h1 : σ[i]? = some (some v) := h1
          cases hc : lent.contains j with
          | true =>
            have e1 : shownAt ρ lent j (.own i :: zs) = shownAt ρ lent (j + 1) zs := by simp only [shownAt, hc, if_true]
            have e2 : lentAt lent j (.own i :: zs) = i :: lentAt lent (j + 1) zs := by simp only [lentAt, hc, if_true, Bool.false_eq_true, if_false]
            rw [e1] at hs
            rw [e2] at hl ⊢
            obtain ⟨io, q1, q2, q3⟩ := ih (j + 1) h2 er hs fun i' hi' => hl i' (List.mem_cons_of_mem _ hi')
            simp only [hc, if_true] at e
            have fin : ∀ {xs : List D} {a : Addr} {ws : List V}, some (Arg.io xs :: as') = some as → σ[i]? = some (some (.ref a)) → H a = some (.lst ws) → DenL K F ws xs → isOwn (slot ρ i) = true →
                ∃ io, ArgsR K B H (v :: vs) as io ∧ io.length = (i :: lentAt lent (j + 1) zs).length ∧ ∀ (k i' : Nat), (i :: lentAt lent (j + 1) zs)[k]? = some i' → ∃ a, io[k]? = some a ∧ σ[i']? = some (some (.ref a)) ∧ isOwn (slot ρ i') = true := fun {xs a ws} ea a1 a2 a3 a4 => by
              cases ea
              rw [h1] at a1; cases a1
              refine ⟨a :: io, .io a2 (hl i List.mem_cons_self a h1) (a3.mono hB) q1, congrArg Nat.succ q2, fun k i' ek => ?_⟩
              cases k with
              | zero => simp at ek; subst ek; exact ⟨a, rfl, h1, a4⟩
              | succ k =>
                obtain ⟨b, b1, b2⟩ := q3 k i' (by simpa using ek)
                exact ⟨b, by simpa using b1, b2⟩
            cases hk : slot ρ i with
            | un => rw [hk] at e; cases e
            | fz d => rw [hk] at e; cases e
            | ow xs =>
              rw [hk] at e
              obtain ⟨a, ws, a1, a2, _, _, a3⟩ := S.ow i xs hk
              exact fin e a1 a2 a3 (by rw [hk]; rfl)
            | io xs =>
              rw [hk] at e
              obtain ⟨a, ws, a1, a2, _, _, a3⟩ := S.io i xs hk
              exact fin e a1 a2 a3 (by rw [hk]; rfl)
          | false =>
            have e2 : lentAt lent j (.own i :: zs) = lentAt lent (j + 1) zs := by simp only [lentAt, hc, if_true, Bool.false_eq_true, if_false]
            rw [e2] at hl ⊢
            simp only [hc, Bool.false_eq_true, if_false] at e
            cases hk : slot ρ i with
            | un => simp only [look, hk, slotD] at e; cases e
            | fz d =>
              have e1 : shownAt ρ lent j (.own i :: zs) = shownAt ρ lent (j + 1) zs := by simp only [shownAt, hc, hk, Bool.false_eq_true, if_false]
              rw [e1] at hs
              obtain ⟨io, q1, q2, q3⟩ := ih (j + 1) h2 er hs hl
              simp only [look, hk, slotD] at e
              cases e
              obtain ⟨w, w1, w2⟩ := S.fz i d hk
              rw [h1] at w1; cases w1
              exact ⟨io, .fz (w2.mono hB) q1, q2, q3⟩
            | ow xs =>
              have e1 : shownAt ρ lent j (.own i :: zs) = i :: shownAt ρ lent (j + 1) zs := by simp only [shownAt, hc, hk, Bool.false_eq_true, if_false]
              rw [e1] at hs
              obtain ⟨io, q1, q2, q3⟩ := ih (j + 1) h2 er (fun i' hi' => hs i' (List.mem_cons_of_mem _ hi')) hl
              simp only [look, hk, slotD] at e
              cases e
              obtain ⟨a, ws, a1, a2, _, _, a3⟩ := S.ow i xs hk
              have hb := hs i List.mem_cons_self a ws a1 a2
              rw [h1] at a1; cases a1
              exact ⟨io, .fz (.lst (.inl (.inl hb)) (a3.mono hB)) q1, q2, q3⟩
            | io xs =>
              have e1 : shownAt ρ lent j (.own i :: zs) = i :: shownAt ρ lent (j + 1) zs := by simp only [shownAt, hc, hk, Bool.false_eq_true, if_false]
              rw [e1] at hs
              obtain ⟨io, q1, q2, q3⟩ := ih (j + 1) h2 er (fun i' hi' => hs i' (List.mem_cons_of_mem _ hi')) hl
              simp only [look, hk, slotD] at e
              cases e
              obtain ⟨a, ws, a1, a2, _, _, a3⟩ := S.io i xs hk
              have hb := hs i List.mem_cons_self a ws a1 a2
              rw [h1] at a1; cases a1
              exact ⟨io, .fz (.lst (.inl (.inl hb)) (a3.mono hB)) q1, q2, q3⟩
theorem shown_own {lent : List Nat} : ∀ {zs : List Val} {j i : Nat}, i ∈ shownAt ρ lent j zs → (∃ as, handOver ρ lent j zs = some as) → isOwn (slot ρ i) = true
  | [], _, _, h, _ => by simp [shownAt] at h
  | z :: zs, j, i, h, ⟨as, ha⟩ => by
    unfold handOver at ha
    cases er : handOver ρ lent (j + 1) zs with
    | none => rw [er] at ha; cases ha
    | some as' =>
      rw [er] at ha
      cases z with
      | d x => exact shown_own (j := j + 1) h ⟨as', er⟩
      | fr x => exact shown_own (j := j + 1) h ⟨as', er⟩
      | own k =>
        cases hc : lent.contains j with
        | true =>
          simp only [shownAt, hc, if_true] at h
          exact shown_own (j := j + 1) h ⟨as', er⟩
        | false =>
          simp only [hc, Bool.false_eq_true, if_false] at ha
          cases hk : slot ρ k with
          | un => simp only [look, hk, slotD] at ha; cases ha
          | fz d =>
            simp only [shownAt, hc, hk, Bool.false_eq_true, if_false] at h
            exact shown_own (j := j + 1) h ⟨as', er⟩
          | ow xs =>
            have h : i ∈ k :: shownAt ρ lent (j + 1) zs := by simpa only [shownAt, hc, hk, Bool.false_eq_true, if_false] using h
            rcases List.mem_cons.mp h with rfl | h
            · rw [hk]; rfl
            · exact shown_own (j := j + 1) h ⟨as', er⟩
          | io xs =>
            have h : i ∈ k :: shownAt ρ lent (j + 1) zs := by simpa only [shownAt, hc, hk, Bool.false_eq_true, if_false] using h
            rcases List.mem_cons.mp h with rfl | h
            · rw [hk]; rfl
            · exact shown_own (j := j + 1) h ⟨as', er⟩
theorem all_get {α : Type} {p : α → Bool} {l : List α} (h : l.all p = true) {k : Nat} {x : α} (e : l[k]? = some x) : p x = true := List.all_eq_true.mp h x (List.mem_of_getElem? e)
open Classical in
/-- a call, from the caller's state -/
theorem call_ok {call : CallT} {lentOf : String → Option (List Nat)} {f : String} {vs : List V} {zs : List Val} {Q : VK} {E : XK} (S : SR K c F H σ ρ) (o : ORL K F σ vs zs)
    (g : G K c (fun _ _ _ _ _ _ => False) σ ρ F H (callV call lentOf f ρ zs) fun z ρ' F' H' => ∀ v, VR K c σ ρ' F' H' H v z → Q v H') : spF K call f vs H Q E := by
  unfold callV at g
  cases hlo : lentOf f with
  | none => rw [hlo] at g; exact g.elim
  | some lent =>
  simp only [hlo] at g
  cases hho : handOver ρ lent 0 zs with
  | none => rw [hho] at g; exact g.elim
  | some as =>
  simp only [hho] at g
  split at g
  case isFalse => exact g.elim
  case isTrue hnd =>
  obtain ⟨nd, apart⟩ := hnd
  -- what is shown
  let sh : Addr → Prop := fun a => ∃ i, i ∈ shownAt ρ lent 0 zs ∧ σ[i]? = some (some (.ref a))
  let B : Hp := fun a => if sh a then H a else F a
  have shO : ∀ a, sh a → owned σ ρ a := fun a ⟨i, hi, e⟩ => ⟨i, shown_own hi ⟨as, hho⟩, e⟩
  have shF : ∀ a, sh a → F a = none := fun a h => S.ownF (shO a h)
  have Bsh : ∀ a, sh a → B a = H a := fun a h => if_pos h
  have Bns : ∀ a, ¬ sh a → B a = F a := fun a h => if_neg h
  have FB : Sm F B := fun a o' e => by
    rw [Bns a fun h => by rw [shF a h] at e; cases e]; exact e
  have BH : Sm B H := fun a o' e => by
    by_cases h : sh a
    · rw [Bsh a h] at e; exact e
    · rw [Bns a h] at e; exact S.exF a o' e
  have lentB : ∀ i, i ∈ lentAt lent 0 zs → isOwn (slot ρ i) = true → ∀ a, σ[i]? = some (some (.ref a)) → ¬ sh a := fun i hi ho a e ⟨k, hk, ek⟩ => by
    have := S.sep k i a (shown_own hk ⟨as, hho⟩) ho ek e
    subst this
    exact apart k hk hi
  have lentO : ∀ i, i ∈ lentAt lent 0 zs → isOwn (slot ρ i) = true := by
    have gen : ∀ (zs : List Val) (j : Nat) (as : List Arg), handOver ρ lent j zs = some as → ∀ i, i ∈ lentAt lent j zs → isOwn (slot ρ i) = true := by
      intro zs
      induction zs with
      | nil => intro j as _ i h; simp [lentAt] at h
      | cons z zs ih =>
        intro j as e i h
        unfold handOver at e
        cases er : handOver ρ lent (j + 1) zs with
        | none => rw [er] at e; cases e
        | some as' =>
          rw [er] at e
          cases z with
          | d x => exact ih _ _ er i h
          | fr x => exact ih _ _ er i h
          | own k =>
            cases hc : lent.contains j with
            | true =>
              have h : i ∈ k :: lentAt lent (j + 1) zs := by simpa only [lentAt, hc, if_true, Bool.false_eq_true, if_false] using h
              rcases List.mem_cons.mp h with rfl | h
              · simp only [hc, if_true] at e
                cases hk : slot ρ i with
                | un => rw [hk] at e; cases e
                | fz d => rw [hk] at e; cases e
                | ow xs => rfl
                | io xs => rfl
              · exact ih _ _ er i h
            | false =>
              have h : i ∈ lentAt lent (j + 1) zs := by simpa only [lentAt, hc, if_true, Bool.false_eq_true, if_false] using h
              exact ih _ _ er i h
    exact gen zs 0 as hho
  obtain ⟨io, hA, hlen, hat⟩ := hand_ok S FB (lent := lent) 0 o hho
    (fun i hi a ws e h => by rw [Bsh a ⟨i, hi, e⟩]; exact h) (fun i hi a e => by
      rw [Bns a (lentB i hi (lentO i hi) a e)]
      exact S.ownF ⟨i, lentO i hi, e⟩)
  have ioAt : ∀ a, a ∈ io → ∃ i, i ∈ lentAt lent 0 zs ∧ σ[i]? = some (some (.ref a)) ∧ isOwn (slot ρ i) = true := fun a ha => by
    obtain ⟨k, hk⟩ := List.getElem?_of_mem ha
    have hk2 : k < (lentAt lent 0 zs).length := by
      rw [← hlen]
      exact (List.getElem?_eq_some_iff.mp hk).1
    obtain ⟨b, b1, b2, b3⟩ := hat k _ (List.getElem?_eq_getElem hk2)
    rw [hk] at b1; cases b1
    exact ⟨_, List.getElem_mem hk2, b2, b3⟩
  have ioO : ∀ a, a ∈ io → owned σ ρ a := fun a ha => let ⟨i, _, h2, h3⟩ := ioAt a ha; ⟨i, h3, h2⟩
  have ndio : io.Nodup := by
    refine List.pairwise_iff_getElem.mpr fun k l hk hl hkl e => ?_
    have hl2 : l < (lentAt lent 0 zs).length := by rw [← hlen]; exact hl
    have hk2 : k < (lentAt lent 0 zs).length := by rw [← hlen]; exact hk
    obtain ⟨a, a1, a2, a3⟩ := hat k _ (List.getElem?_eq_getElem hk2)
    obtain ⟨b, b1, b2, b3⟩ := hat l _ (List.getElem?_eq_getElem hl2)
    rw [List.getElem?_eq_getElem hk] at a1
    rw [List.getElem?_eq_getElem hl] at b1
    cases a1
    cases b1
    rw [← e] at b2
    have := S.sep _ _ _ a3 b3 a2 b2
    have := (List.getElem_inj nd).mp this
    omega
  cases hr : call f as with
  | bad => rw [hr] at g; exact g.elim
  | ex cn v ρ' =>
    rw [hr] at g
    simp only at g
    split at g
    · exact (g F H S .refl).elim
    · exact g.elim
  | ok r =>
  rw [hr] at g
  simp only at g
  refine ⟨as, B, io, r, hA, BH, S.hl, ndio, hr, fun F' H' v b => ?_⟩
  cases hpb : putBack ρ (lentAt lent 0 zs) r.2 with
  | none => rw [hpb] at g; exact g.elim
  | some ρ1 =>
  simp only [hpb] at g
  split at g
  case isFalse => exact g.elim
  case isTrue him =>
  -- the new data
  let F2 : Hp := fun a => if sh a then none else F' a
  have F2sh : ∀ a, sh a → F2 a = none := fun a h => if_pos h
  have F2ns : ∀ a, ¬ sh a → F2 a = F' a := fun a h => if_neg h
  have FF2 : Sm F F2 := fun a o' e => by
    rw [F2ns a fun h => by rw [shF a h] at e; cases e]; exact b.exB a o' (FB a o' e)
  have F2H : Sm F2 H' := fun a o' e => by
    by_cases h : sh a
    · rw [F2sh a h] at e; cases e
    · rw [F2ns a h] at e; exact b.exF a o' e
  have tups : ∀ a xs, SqT K F' a xs → SqT K F2 a xs := fun a xs h => by
    rcases h with h | h
    · refine .inl ?_
      have ns : ¬ sh a := fun z => by
        obtain ⟨ws, hw⟩ := S.live (shO a z)
        have h2 : F' a = some (.lst ws) := b.exB a _ (by rw [Bsh a z]; exact hw)
        rcases h with h | ⟨o', h⟩
        · rw [h2] at h; cases h
        · rw [h2] at h; cases h
      rcases h with h | ⟨o', h⟩
      · exact .inl (by rw [F2ns a ns]; exact h)
      · exact .inr ⟨o', by rw [F2ns a ns]; exact h⟩
    · exact .inr h
  have nosh : (shownAt ρ lent 0 zs).isEmpty = true → F2 = F' := fun h => by
    funext a
    refine F2ns a fun ⟨i, hi, _⟩ => ?_
    rw [List.isEmpty_iff.mp h] at hi
    simp at hi
  have upL : ∀ {ws : List V} {xs : List D}, DenL K F' ws xs → ((shownAt ρ lent 0 zs).isEmpty = false → immL xs = true) → DenL K F2 ws xs := fun {ws xs} h hi => by
    cases he : (shownAt ρ lent 0 zs).isEmpty with
    | true => rw [nosh he]; exact h
    | false => exact h.imm tups (hi he)
  have imO : (shownAt ρ lent 0 zs).isEmpty = false → immV r.1 = true ∧ r.2.all immL = true := fun he => by
    rw [he, Bool.false_or] at him
    exact Bool.and_eq_true_iff.mp him
  have keepO : ∀ a o', H a = some o' → ¬ owned σ ρ a → H' a = some o' := fun a o' e n => b.keep a o' e fun z => n (ioO a z)
  have alive : ∀ a, H' a = none → H a = none := fun a e => by
    cases q : H a with
    | none => rfl
    | some o' =>
      by_cases hio : a ∈ io
      · obtain ⟨ws, hw⟩ := b.outs.mem hio
        rw [hw] at e; cases e
      · rw [b.keep a o' q hio] at e; cases e
  have own1 : ∀ i, isOwn (slot ρ1 i) = isOwn (slot ρ i) := putBack_own nd hpb
  have F2own : ∀ a, owned σ ρ a → F' a = none ∨ sh a := fun a h => by
    by_cases z : sh a
    · exact .inr z
    · refine .inl ?_
      cases q : F' a with
      | none => rfl
      | some o' =>
        rcases b.dom a o' q with q | q
        · rw [Bns a z, S.ownF h] at q; cases q
        · obtain ⟨ws, hw⟩ := S.live h
          rw [hw] at q; cases q
  have F2none : ∀ a, owned σ ρ a → F2 a = none := fun a h => by
    rcases F2own a h with q | q
    · by_cases z : sh a
      · exact F2sh a z
      · rw [F2ns a z]; exact q
    · exact F2sh a q
  -- a slot that is an own list, behind
  have back : ∀ i, isOwn (slot ρ1 i) = true → ∃ a ws xs, σ[i]? = some (some (.ref a)) ∧ H' a = some (.lst ws) ∧ F2 a = none ∧ DenL K F2 ws xs ∧ ((slot ρ1 i = .ow xs ∧ c.H0 a = none) ∨ (slot ρ1 i = .io xs ∧ a ∈ c.io)) := fun i hi => by
    have hi0 : isOwn (slot ρ i) = true := by rw [← own1]; exact hi
    rcases putBack_slot nd hpb i with ⟨hn, q⟩ | ⟨k, xs, q1, q2, q3⟩
    · have nio : ∀ a, σ[i]? = some (some (.ref a)) → a ∉ io := fun a e z => by
        obtain ⟨i', h1, h2, h3⟩ := ioAt a z
        have := S.sep i i' a hi0 h3 e h2
        subst this
        exact hn h1
      cases hk : slot ρ i with
      | un => rw [hk] at hi0; cases hi0
      | fz d => rw [hk] at hi0; cases hi0
      | ow xs =>
        obtain ⟨a, ws, a1, a2, a3, a4, a5⟩ := S.ow i xs hk
        exact ⟨a, ws, xs, a1, b.keep a _ a2 (nio a a1), F2none a ⟨i, hi0, a1⟩, a5.mono FF2, .inl ⟨q.trans hk, a4⟩⟩
      | io xs =>
        obtain ⟨a, ws, a1, a2, a3, a4, a5⟩ := S.io i xs hk
        exact ⟨a, ws, xs, a1, b.keep a _ a2 (nio a a1), F2none a ⟨i, hi0, a1⟩, a5.mono FF2, .inr ⟨q.trans hk, a4⟩⟩
    · obtain ⟨a, ws, b1, b2, b3, b4⟩ := b.outs.get q2
      obtain ⟨a', c1, c2, c3⟩ := hat k i q1
      rw [b1] at c1; cases c1
      have dl : DenL K F2 ws xs := upL b4 fun he => all_get (imO he).2 q2
      rcases q3 with ⟨⟨ys, q3⟩, q4⟩ | ⟨⟨ys, q3⟩, q4⟩
      · obtain ⟨a', ws', a1, a2, a3, a4, a5⟩ := S.ow i ys q3
        rw [c2] at a1; cases a1
        exact ⟨a, ws, xs, c2, b2, F2none a ⟨i, hi0, c2⟩, dl, .inl ⟨q4, a4⟩⟩
      · obtain ⟨a', ws', a1, a2, a3, a4, a5⟩ := S.io i ys q3
        rw [c2] at a1; cases a1
        exact ⟨a, ws, xs, c2, b2, F2none a ⟨i, hi0, c2⟩, dl, .inr ⟨q4, a4⟩⟩
  have ioC : ∀ a, a ∈ io → a ∈ c.io ∨ c.H0 a = none := fun a ha => by
    obtain ⟨i, _, h2, h3⟩ := ioAt a ha
    cases hk : slot ρ i with
    | un => rw [hk] at h3; cases h3
    | fz d => rw [hk] at h3; cases h3
    | ow xs =>
      obtain ⟨a', _, a1, _, _, a4, _⟩ := S.ow i xs hk
      rw [h2] at a1; cases a1; exact .inr a4
    | io xs =>
      obtain ⟨a', _, a1, _, _, a4, _⟩ := S.io i xs hk
      rw [h2] at a1; cases a1; exact .inl a4
  have S2 : SR K c F2 H' σ ρ1 := by
    refine ⟨by rw [putBack_len hpb]; exact S.len, S.exB.trans FF2, fun a o' e => ?_, F2H, fun a o' e n => ?_, fun a ha => ?_, b.hl, fun i d e => ?_, fun i xs e => ?_, fun i xs e => ?_, fun i k a h1 h2 => ?_⟩
    · by_cases h : sh a
      · rw [F2sh a h] at e; cases e
      · rw [F2ns a h] at e
        rcases b.dom a o' e with q | q
        · rw [Bns a h] at q; exact S.dom a o' q
        · exact .inr (S.fresh0 q)
    · refine b.keep a o' (S.keep a o' e n) fun z => ?_
      rcases ioC a z with q | q
      · exact n q
      · rw [q] at e; cases e
    · obtain ⟨m, ws, e⟩ := S.iol a ha
      refine ⟨m, ?_⟩
      by_cases z : a ∈ io
      · exact b.outs.mem z
      · exact ⟨ws, b.keep a _ e z⟩
    · rcases putBack_slot nd hpb i with ⟨_, q⟩ | ⟨k, xs, q1, q2, ⟨_, q3⟩ | ⟨_, q3⟩⟩
      · rw [q] at e
        obtain ⟨v', e1, e2⟩ := S.fz i d e
        exact ⟨v', e1, e2.mono FF2⟩
      · rw [q3] at e; cases e
      · rw [q3] at e; cases e
    · obtain ⟨a, ws, ys, a1, a2, a3, a4, ⟨a5, a6⟩ | ⟨a5, a6⟩⟩ := back i (by rw [e]; rfl)
      · rw [e] at a5; cases a5; exact ⟨a, ws, a1, a2, a3, a6, a4⟩
      · rw [e] at a5; cases a5
    · obtain ⟨a, ws, ys, a1, a2, a3, a4, ⟨a5, a6⟩ | ⟨a5, a6⟩⟩ := back i (by rw [e]; rfl)
      · rw [e] at a5; cases a5
      · rw [e] at a5; cases a5; exact ⟨a, ws, a1, a2, a3, a6, a4⟩
    · rw [own1] at h1 h2
      exact S.sep i k a h1 h2
  have X2 : Ext σ ρ F H ρ1 F2 H' := by
    refine ⟨FF2, fun a h => ?_, keepO, alive, fun a ⟨i, h1, h2⟩ => ⟨i, by rw [← own1]; exact h1, h2⟩⟩
    by_cases z : sh a
    · exact absurd (F2sh a z) h
    · rw [F2ns a z] at h
      cases q : F' a with
      | none => exact absurd q h
      | some o' =>
        rcases b.dom a o' q with q | q
        · rw [Bns a z] at q; exact .inl (by rw [q]; intro z'; cases z')
        · exact .inr (.inl q)
  refine g F2 H' S2 X2 v ?_
  have hv := b.val
  cases hz : r.1 with
  | own i => rw [hz] at hv; exact hv.elim
  | d x =>
    rw [hz] at hv
    show Den K F2 v x
    cases he : (shownAt ρ lent 0 zs).isEmpty with
    | true => rw [nosh he]; exact hv
    | false =>
      have := (imO he).1
      rw [hz] at this
      exact Den.imm tups hv this
  | fr xs =>
    rw [hz] at hv
    obtain ⟨a, ws, rfl, a1, a2, a3, a4⟩ := hv
    have na : ¬ owned σ ρ a := S.freshO a3
    refine ⟨a, ws, rfl, a1, ?_, S.fresh0 a3, a3, upL a4 fun he => ?_, fun ⟨i, h1, h2⟩ => na ⟨i, by rw [← own1]; exact h1, h2⟩⟩
    · by_cases z : sh a
      · exact F2sh a z
      · rw [F2ns a z]; exact a2
    · have := (imO he).1
      rw [hz] at this
      exact this
end
end PX
/-! PX, part f: the rules for expressions. -/
namespace PX
open PySem PySem.Spec PyProof.Rows L2
abbrev W0 : XW := fun _ _ _ _ _ _ => False

/-! ### what is known around a text -/
def freeNames : List Str := ["len", "all", "any", "tuple", "list", "int", "sum", "min", "max", "abs", "isinstance", "range", "zip", "enumerate", "bool", "str", "sorted", "set", "dict", "repr"]
def permL {α : Type} (perm : List Nat) (l : List α) : List α := perm.filterMap (l[·]?)
theorem permL_mapM {α : Type} {l : List α} : ∀ {perm : List Nat} {ws : List α}, perm.mapM (fun i => l[i]?) = some ws → permL perm l = ws
  | [], ws, h => by cases h; rfl
  | i :: is, ws, h => by
    rw [List.mapM_cons] at h
    cases hi : l[i]? with
    | none => rw [hi] at h; cases h
    | some x =>
      rw [hi] at h
      cases hr : is.mapM (fun i => l[i]?) with
      | none => rw [hr] at h; cases h
      | some xs =>
        rw [hr] at h
        cases h
        unfold permL
        rw [List.filterMap_cons, hi]
        exact congrArg (x :: ·) (permL_mapM hr)
theorem permL_vals (perm : List Nat) {vs : List V} {us : List Value} (r : Vals vs us) : Vals (permL perm vs) (permL perm us) := by
  induction perm with
  | nil => exact .nil
  | cons i is ih =>
    unfold permL at ih ⊢
    rw [List.filterMap_cons, List.filterMap_cons]
    cases hi : vs[i]? with
    | none => rw [r.none_of hi]; exact ih
    | some v =>
      obtain ⟨u, hu, ru⟩ := r.get hi
      rw [hu]
      exact .cons ru ih
theorem permL_orl {K : PySem.W.Frag} {F : Hp} {σ : St} (perm : List Nat) {vs : List V} {zs : List Val} (r : ORL K F σ vs zs) : ORL K F σ (permL perm vs) (permL perm zs) := by
  have get : ∀ {vs : List V} {zs : List Val} (i : Nat), ORL K F σ vs zs → (vs[i]? = none ∧ zs[i]? = none) ∨ ∃ v z, vs[i]? = some v ∧ zs[i]? = some z ∧ OR K F σ v z := by
    intro vs zs i h
    induction h generalizing i with
    | nil => exact .inl ⟨by simp, by simp⟩
    | cons h1 _ ih =>
      cases i with
      | zero => exact .inr ⟨_, _, rfl, rfl, h1⟩
      | succ i => simpa using ih i
  induction perm with
  | nil => exact .nil
  | cons i is ih =>
    unfold permL at ih ⊢
    rw [List.filterMap_cons, List.filterMap_cons]
    rcases get i r with ⟨e1, e2⟩ | ⟨v, z, e1, e2, o⟩
    · rw [e1, e2]; exact ih
    · rw [e1, e2]; exact .cons o ih
structure FnAt (P : Prog) (n : Nat) (kws : String → List (Nat × List String × List Nat)) (pr : Program) (w : World) (K : PySem.W.Frag) (mg : Str → Option Value) (base : Heap) (f : String) : Prop where
  ex : ∃ (fa : Addr) (fdd : FuncData) (ps : List Str), FnOk pr w K mg base CX0 n fa fdd ps (spF K (callN P n) f) ∧ mg (Str.ofString f) = some (.ref fa) ∧ PySem.W.keepIn K (.ref fa) = true ∧ Binds K fdd ps [] ∧
    ∀ q ∈ kws f, KBn K fdd ps q.1 (q.2.1.map Str.ofString) (fun us ws => permL q.2.2 (us ++ ws)) (fun vs zs => permL q.2.2 (vs ++ zs))
structure ProgAt (P : Prog) (n : Nat) (kws : String → List (Nat × List String × List Nat)) (pr : Program) (w : World) (K : PySem.W.Frag) (mg : Str → Option Value) (base : Heap) : Prop where
  fn : ∀ f fd, P.lookup f = some fd → FnAt P n kws pr w K mg base f
  free : ∀ x ∈ freeNames, mg x = none
structure XC (P : Prog) (n : Nat) (kws : String → List (Nat × List String × List Nat)) (N : List Str) (sc : Scope) (X : Cx) : Prop where
  calm : X.calm = true
  names : X.N = N
  nd : N.Nodup
  scope : X.env.scope = sc
  room : Room n X.A
  prog : ProgAt P n kws X.prog X.w X.K X.mg X.base

/-! ### names, constants, displays -/
section
variable {X : Cx} {c : FC} {e : Expr} {pos : Pos}
theorem re_of {f : Env → Res (Val × Env)} {t : TE} (h : PE X e t) (hi : ∀ {σ F ρ H Q}, SR X.K c F H σ ρ → G X.K c W0 σ ρ F H (f ρ) (fun z ρ' F' H' => ∀ v, VR X.K c σ ρ' F' H' H v z → Q v H') → t σ H Q) : PE X e (RE X.K c W0 f) :=
  pe_imp h fun _ _ _ ⟨_, _, S, g⟩ => hi S g
variable (call : CallT) (lo : String → Option (List Nat))
theorem e_nm {i : Nat} {x : Str} (hN : X.N[i]? = some x) (hv : Vis X.env.scope x) (hd : (x == ("__debug__" : Str)) = false) (hcd : (x == ("__classdict__" : Str)) = false) : PE X (.Name x pos) (RE X.K c W0 (evE call lo (.nm i))) :=
  re_of (pe_var hN hv hd hcd) fun {σ F ρ H Q} S g => by
    show ∃ v, σ[i]? = some (some v) ∧ Q v H
    have g : G X.K c W0 σ ρ F H (match slot ρ i with | .un => .bad | .fz d => .ok (.d d, ρ) | _ => .ok (.own i, ρ)) (fun z ρ' F' H' => ∀ v, VR X.K c σ ρ' F' H' H v z → Q v H') := g
    cases hk : slot ρ i with
    | un => rw [hk] at g; exact g.elim
    | fz d =>
      rw [hk] at g
      obtain ⟨v, e1, e2⟩ := S.fz i d hk
      exact ⟨v, e1, g.here S .refl v e2⟩
    | ow xs =>
      rw [hk] at g
      obtain ⟨a, vs, e1, _⟩ := S.ow i xs hk
      exact ⟨_, e1, g.here S .refl _ e1⟩
    | io xs =>
      rw [hk] at g
      obtain ⟨a, vs, e1, _⟩ := S.io i xs hk
      exact ⟨_, e1, g.here S .refl _ e1⟩
theorem e_int {i : Int} {j : Nat} : PE X (.Constant (.int i) j pos) (RE X.K c W0 (evE call lo (.c (.int i)))) := re_of pe_int fun S g => g.here S .refl _ (.int i)
theorem e_bl {i : Bool} {j : Nat} : PE X (.Constant (.bool i) j pos) (RE X.K c W0 (evE call lo (.c (.bool i)))) := re_of pe_bl fun S g => g.here S .refl _ (.bl i)
theorem e_str {i : Str} {j : Nat} : PE X (.Constant (.str i) j pos) (RE X.K c W0 (evE call lo (.c (.str i)))) := re_of pe_str fun S g => g.here S .refl _ (.str i)
theorem e_non {j : Nat} : PE X (.Constant .none j pos) (RE X.K c W0 (evE call lo (.c .none))) := re_of pe_non fun S g => g.here S .refl _ .non
variable {es : List Expr} {fs : Es}
theorem a_nil : PA X [] (RA X.K c W0 (evEs call lo .nil)) := pa_imp pa_nil fun σ H Q ⟨F, ρ, S, g⟩ => g.here S .refl [] .nil
theorem star_cons {es : List Expr} {env : PySem.Env} (h : ∀ x p, e ≠ .Starred x p) : starEach (e :: es) env = (false, eval e env) :: starEach es env := by
  cases e <;> first | rfl | exact absurd rfl (h _ _)
theorem a_cons {ie : E} (h : ∀ x p, e ≠ .Starred x p) (he : PE X e (RE X.K c W0 (evE call lo ie))) (ht : PA X es (RA X.K c W0 (evEs call lo fs))) : PA X (e :: es) (RA X.K c W0 (evEs call lo (.cons ie fs))) :=
  pa_imp (pa_cons (pe_opd he) ht (star_cons h)) fun σ H Q ⟨F, ρ, S, g⟩ => by
    have g : G X.K c W0 σ ρ F H ((opd (evE call lo ie ρ)).bind fun r => (evEs call lo fs r.2).bind fun q => .ok (r.1 :: q.1, q.2)) (fun zs ρ' F' H' => ∀ vs, ORL X.K F' σ vs zs → Q vs H') := g
    refine ⟨F, ρ, S, g.bind.imp fun z ρ1 F1 H1 S1 X1 g1 v o1 => ?_⟩
    refine ⟨F1, ρ1, S1, g1.bind.imp fun zs ρ2 F2 H2 S2 X2 g2 vs o2 => ?_⟩
    exact g2.here S2 .refl _ (.cons (o1.mono X2.exF) o2)
theorem G.ite {α : Type} {K : PySem.W.Frag} {c : FC} {W : XW} {σ : St} {ρ : Env} {F H : Hp} {p : Prop} [Decidable p] {r : Res (α × Env)} {k : α → Env → Hp → Hp → Prop} (g : G K c W σ ρ F H (if p then r else .bad) k) : p ∧ G K c W σ ρ F H r k := by
  by_cases h : p
  · rw [if_pos h] at g; exact ⟨h, g⟩
  · rw [if_neg h] at g; exact g.elim
theorem ORL.length {K : PySem.W.Frag} {F : Hp} {σ : St} {vs : List V} {zs : List Val} (h : ORL K F σ vs zs) : vs.length = zs.length := by
  induction h with
  | nil => rfl
  | cons _ _ ih => exact congrArg Nat.succ ih
theorem e_tup {k : Nat} (h : PA X es (RA X.K c W0 (evEs call lo fs))) : PE X (.Tuple es k pos) (RE X.K c W0 (evE call lo (.tup fs))) :=
  re_of (pe_tup h) fun {σ F ρ H Q} S g => by
    have g : G X.K c W0 σ ρ F H ((evEs call lo fs ρ).bind fun r => (Res.need (aliasL r.2 r.1)).bind fun q => if fits q.1.length then .ok (Val.d (.tuple q.1), q.2) else .bad) (fun z ρ' F' H' => ∀ v, VR X.K c σ ρ' F' H' H v z → Q v H') := g
    refine ⟨F, ρ, S, g.bind.imp fun zs ρ1 F1 H1 S1 X1 g1 vs o => ?_⟩
    obtain ⟨q, e1, g2⟩ := g1.need
    obtain ⟨hf, g2⟩ := g2.ite
    obtain ⟨F2, S2, X2, d2⟩ := SR.aliasL o S1 o e1
    have hz : vs.length ≤ sizeLine := by rw [d2.length]; exact of_decide_eq_true hf
    refine ⟨hz, fun p hp => ?_⟩
    have S3 := S2.laid hp (S2.hl.updT (p := p) hz)
    have hF := S2.freshF hp
    have S4 := S3.take upd_same hF (S2.fresh0 hp) (fun z => S2.freshO hp z)
    exact g2.here S4 ((X2.trans (Ext.laid (o := .tup vs) hp)).took hF hp) _ (.tup (.inl (.inl upd_same)) (d2.mono (Sm.upd hF)))
theorem e_lst (h : PA X es (RA X.K c W0 (evEs call lo fs))) : PE X (.List es pos) (RE X.K c W0 (evE call lo (.lst fs))) :=
  re_of (pe_lst h) fun {σ F ρ H Q} S g => by
    have g : G X.K c W0 σ ρ F H ((evEs call lo fs ρ).bind fun r => (Res.need (aliasL r.2 r.1)).bind fun q => if fits q.1.length then .ok (Val.fr q.1, q.2) else .bad) (fun z ρ' F' H' => ∀ v, VR X.K c σ ρ' F' H' H v z → Q v H') := g
    refine ⟨F, ρ, S, g.bind.imp fun zs ρ1 F1 H1 S1 X1 g1 vs o => ?_⟩
    obtain ⟨q, e1, g2⟩ := g1.need
    obtain ⟨hf, g2⟩ := g2.ite
    obtain ⟨F2, S2, X2, d2⟩ := SR.aliasL o S1 o e1
    have hz : vs.length ≤ sizeLine := by rw [d2.length]; exact of_decide_eq_true hf
    refine ⟨hz, fun p hp => ?_⟩
    have S3 := S2.laid hp (S2.hl.updL (p := p) hz)
    exact g2.here S3 (X2.trans (Ext.laid hp)) _ ⟨p, vs, rfl, upd_same, S2.freshF hp, S2.fresh0 hp, X1.alive p hp, d2, S2.freshO hp⟩

/-! ### operators -/
variable {a b : Expr} {ia ib : E}
theorem e_bin {op : Operator} (ha : PE X a (RE X.K c W0 (evE call lo ia))) (hb : PE X b (RE X.K c W0 (evE call lo ib))) : PE X (.BinOp a op b pos) (RE X.K c W0 (evE call lo (.bin op ia ib))) :=
  pe_imp (pe_op (bin_ok op) (pe_opd ha) (pe_opd hb)) fun σ H Q h => two_op (bin_op op) (binV_ne op) h
theorem cmpK_ne (op : CmpOp) (x y : D) (cn : String) (v : D) (ρ' : Env) : ((cmpV op x y).bind fun k => (.ok (.d (.bool k)) : Res Val)) ≠ .ex cn v ρ' := by
  intro h
  cases e : cmpV op x y with
  | ok k => rw [e] at h; cases h
  | bad => rw [e] at h; cases h
  | ex cn v ρ' => exact cmpV_ne op x y _ _ _ e
theorem e_cmp {op : CmpOp} (hu : X.A.units + 65 < cLine) (ha : PE X a (RE X.K c W0 (evE call lo ia))) (hb : PE X b (RE X.K c W0 (evE call lo ib))) (hm : behindInMarks op b = false) : PE X (.Compare a [op] [b] pos) (RE X.K c W0 (evE call lo (.cmp op ia ib))) :=
  pe_imp (pe_cmpR (cmp_ok hu op) (pe_opd ha) (pe_opd hb) hm) fun σ H Q h => two_op (cmp_op op) (cmpK_ne op) h
theorem e_ix (ha : PE X a (RE X.K c W0 (evE call lo ia))) (hb : PE X b (RE X.K c W0 (evE call lo ib))) (hs : PlainIx b) : PE X (.Subscript a b pos) (RE X.K c W0 (evE call lo (.ix ia ib))) :=
  pe_imp (pe_ix ix_seq (pe_opd ha) (pe_opd hb) hs) fun σ H Q h => two_op ix_op ixV_ne h
theorem e_neg (ha : PE X a (RE X.K c W0 (evE call lo ia))) : PE X (.UnaryOp .USub a pos) (RE X.K c W0 (evE call lo (.neg ia))) :=
  pe_imp (pe_un un_neg (pe_opd ha)) fun σ H Q h => one_op neg_op negV_ne h
theorem truK_ne (x : D) (cn : String) (v : D) (ρ' : Env) : ((truthD x).bind fun k => (.ok (.d (.bool (!k))) : Res Val)) ≠ .ex cn v ρ' := by
  intro h
  cases e : truthD x with
  | ok k => rw [e] at h; cases h
  | bad => rw [e] at h; cases h
  | ex cn v ρ' => exact truthD_ne x _ _ _ e
theorem e_not (ha : PE X a (RE X.K c W0 (evE call lo ia))) : PE X (.UnaryOp .Not a pos) (RE X.K c W0 (evE call lo (.not ia))) :=
  pe_imp (pe_notT (pe_opd ha)) fun σ H Q h => one_op not_op truK_ne h
theorem ok_ne {α : Type} {f : D → α} (x : D) (cn : String) (v : D) (ρ' : Env) : (.ok (f x) : Res α) ≠ .ex cn v ρ' := by
  intro h
  cases h
theorem e_isN {j : Nat} {p : Pos} (ha : PE X a (RE X.K c W0 (evE call lo ia))) : PE X (.Compare a [.Is] [.Constant .none j p] pos) (RE X.K c W0 (evE call lo (.isN ia))) :=
  pe_imp (pe_cmp (pc_isN (pe_opd ha)) rfl) fun σ H Q h => one_op isN_op ok_ne h
theorem e_notN {j : Nat} {p : Pos} (ha : PE X a (RE X.K c W0 (evE call lo ia))) : PE X (.Compare a [.IsNot] [.Constant .none j p] pos) (RE X.K c W0 (evE call lo (.notN ia))) :=
  pe_imp (pe_cmp (pc_notN (pe_opd ha)) rfl) fun σ H Q h => one_op notN_op ok_ne h

/-! ### and, or, if -/
theorem asBool_some {z : Val} {k : Bool} (h : asBool z = some k) : z = .d (.bool k) := by
  unfold asBool at h
  split at h
  · cases h; rfl
  · cases h
theorem asInt_some {z : Val} {k : Int} (h : asInt z = some k) : z = .d (.int k) := by
  unfold asInt at h
  split at h
  · cases h; rfl
  · cases h
variable {rest : List Expr}
/-- weaken where the value came from -/
theorem VR.since {K : PySem.W.Frag} {c : FC} {σ : St} {ρ : Env} {F H H1 H00 : Hp} {v : V} {z : Val} (al : ∀ a, H1 a = none → H00 a = none) (h : VR K c σ ρ F H H1 v z) : VR K c σ ρ F H H00 v z := by
  cases z with
  | d _ => exact h
  | own _ => exact h
  | fr _ =>
    obtain ⟨p, vs, h1, h2, h3, h4, h5, h6⟩ := h
    exact ⟨p, vs, h1, h2, h3, h4, al p h5, h6⟩
theorem e_and (ha : PE X a (RE X.K c W0 (evE call lo ia))) (hb : PE X (.BoolOp .And (b :: rest) pos) (RE X.K c W0 (evE call lo ib))) : PE X (.BoolOp .And (a :: b :: rest) pos) (RE X.K c W0 (evE call lo (.and ia ib))) :=
  re_of (pe_and ha hb) fun {σ F ρ H Q} S g => by
    have g : G X.K c W0 σ ρ F H ((evE call lo ia ρ).bind fun r => (Res.need (asBool r.1)).bind fun k => if k then evE call lo ib r.2 else .ok (.d (.bool false), r.2)) (fun z ρ' F' H' => ∀ v, VR X.K c σ ρ' F' H' H v z → Q v H') := g
    refine ⟨F, ρ, S, g.bind.imp fun z ρ1 F1 H1 S1 X1 g1 v hv => ?_⟩
    obtain ⟨k, e1, g1⟩ := g1.need
    have e1 := asBool_some e1
    subst e1
    refine ⟨k, Den.toBl hv, ?_⟩
    cases k with
    | true =>
      rw [if_pos rfl]
      exact ⟨F1, ρ1, S1, g1.imp fun z ρ' F' H' _ _ q v hv => q v (hv.since X1.alive)⟩
    | false =>
      rw [if_neg Bool.false_ne_true]
      exact g1.here S1 .refl _ (.bl false)
theorem e_or (ha : PE X a (RE X.K c W0 (evE call lo ia))) (hb : PE X (.BoolOp .Or (b :: rest) pos) (RE X.K c W0 (evE call lo ib))) : PE X (.BoolOp .Or (a :: b :: rest) pos) (RE X.K c W0 (evE call lo (.or ia ib))) :=
  re_of (pe_or ha hb) fun {σ F ρ H Q} S g => by
    have g : G X.K c W0 σ ρ F H ((evE call lo ia ρ).bind fun r => (Res.need (asBool r.1)).bind fun k => if k then .ok (.d (.bool true), r.2) else evE call lo ib r.2) (fun z ρ' F' H' => ∀ v, VR X.K c σ ρ' F' H' H v z → Q v H') := g
    refine ⟨F, ρ, S, g.bind.imp fun z ρ1 F1 H1 S1 X1 g1 v hv => ?_⟩
    obtain ⟨k, e1, g1⟩ := g1.need
    have e1 := asBool_some e1
    subst e1
    refine ⟨k, Den.toBl hv, ?_⟩
    cases k with
    | false =>
      rw [if_neg Bool.false_ne_true]
      exact ⟨F1, ρ1, S1, g1.imp fun z ρ' F' H' _ _ q v hv => q v (hv.since X1.alive)⟩
    | true =>
      rw [if_pos rfl]
      exact g1.here S1 .refl _ (.bl true)
variable {t : Expr} {it : T}
theorem e_ife (ht : PT X t (RT X.K c W0 (evT call lo it))) (ha : PE X a (RE X.K c W0 (evE call lo ia))) (hb : PE X b (RE X.K c W0 (evE call lo ib))) : PE X (.IfExp t a b pos) (RE X.K c W0 (evE call lo (.ife it ia ib))) :=
  re_of (pe_ifExp ht ha hb) fun {σ F ρ H Q} S g => by
    have g : G X.K c W0 σ ρ F H ((evT call lo it ρ).bind fun r => if r.1 then evE call lo ia r.2 else evE call lo ib r.2) (fun z ρ' F' H' => ∀ v, VR X.K c σ ρ' F' H' H v z → Q v H') := g
    refine ⟨F, ρ, S, g.bind.imp fun k ρ1 F1 H1 S1 X1 g1 => ?_⟩
    cases k with
    | true =>
      rw [if_pos rfl]
      exact ⟨F1, ρ1, S1, G.imp (r := evE call lo ia ρ1) g1 fun z ρ' F' H' _ _ q v hv => q v (hv.since X1.alive)⟩
    | false =>
      rw [if_neg Bool.false_ne_true]
      exact ⟨F1, ρ1, S1, G.imp (r := evE call lo ib ρ1) g1 fun z ρ' F' H' _ _ q v hv => q v (hv.since X1.alive)⟩

/-! ### tests -/
theorem t_not (h : PT X t (RT X.K c W0 (evT call lo it))) : PT X (.UnaryOp .Not t pos) (RT X.K c W0 (evT call lo (.not it))) :=
  pt_imp (pt_not h) fun σ H Q ⟨F, ρ, S, g⟩ => by
    have g : G X.K c W0 σ ρ F H ((evT call lo it ρ).bind fun r => .ok (!r.1, r.2)) (fun b ρ' F' H' => Q b H') := g
    exact ⟨F, ρ, S, g.bind.imp fun k ρ1 F1 H1 S1 X1 g1 => g1.here S1 .refl⟩
theorem pw_imp {e : Expr} {t t' : TT} (h : PW X e t) (hi : ∀ σ H Q, t' σ H Q → t σ H Q) : PW X e t' := ⟨fun wh pins s σ H Q I q => h.run wh pins s σ H Q I (hi σ H Q q)⟩
variable {t2 : Expr} {it2 : T}
theorem t_and (h : PT X t (RT X.K c W0 (evT call lo it))) (h2 : PW X (.BoolOp .And (t2 :: rest) pos) (RT X.K c W0 (evT call lo it2))) : PW X (.BoolOp .And (t :: t2 :: rest) pos) (RT X.K c W0 (evT call lo (.and it it2))) :=
  pw_imp (pw_and h h2) fun σ H Q ⟨F, ρ, S, g⟩ => by
    have g : G X.K c W0 σ ρ F H ((evT call lo it ρ).bind fun r => if r.1 then evT call lo it2 r.2 else .ok (false, r.2)) (fun b ρ' F' H' => Q b H') := g
    refine ⟨F, ρ, S, g.bind.imp fun k ρ1 F1 H1 S1 X1 g1 => ?_⟩
    cases k with
    | true => rw [if_pos rfl]; exact ⟨F1, ρ1, S1, G.imp (r := evT call lo it2 ρ1) g1 fun _ _ _ _ _ _ q => q⟩
    | false => rw [if_neg Bool.false_ne_true]; exact G.here (a := false) g1 S1 .refl
theorem t_or (h : PT X t (RT X.K c W0 (evT call lo it))) (h2 : PW X (.BoolOp .Or (t2 :: rest) pos) (RT X.K c W0 (evT call lo it2))) : PW X (.BoolOp .Or (t :: t2 :: rest) pos) (RT X.K c W0 (evT call lo (.or it it2))) :=
  pw_imp (pw_or h h2) fun σ H Q ⟨F, ρ, S, g⟩ => by
    have g : G X.K c W0 σ ρ F H ((evT call lo it ρ).bind fun r => if r.1 then .ok (true, r.2) else evT call lo it2 r.2) (fun b ρ' F' H' => Q b H') := g
    refine ⟨F, ρ, S, g.bind.imp fun k ρ1 F1 H1 S1 X1 g1 => ?_⟩
    cases k with
    | true => rw [if_pos rfl]; exact G.here (a := true) g1 S1 .refl
    | false => rw [if_neg Bool.false_ne_true]; exact ⟨F1, ρ1, S1, G.imp (r := evT call lo it2 ρ1) g1 fun _ _ _ _ _ _ q => q⟩
/-- a value's truth -/
theorem t_val (h : PE X a (RE X.K c W0 (evE call lo ia))) (hp : ∀ whole, isTrue a X.env whole = (do let v ← whole; standAt a.pos; holding [v] (truthy v))) : PT X a (RT X.K c W0 (evT call lo (.val ia))) :=
  pt_imp (pt_truth (pe_opd h) hp) fun σ H Q ⟨F, ρ, S, g⟩ => by
    have g : G X.K c W0 σ ρ F H ((opd (evE call lo ia ρ)).bind fun r => (Res.need (look r.2 r.1)).bind fun x => (truthD x).bind fun b => .ok (b, r.2)) (fun b ρ' F' H' => Q b H') := g
    refine ⟨F, ρ, S, g.bind.imp fun z ρ1 F1 H1 S1 X1 g1 v o1 => ?_⟩
    obtain ⟨x, e1, g1⟩ := g1.need
    obtain ⟨k, e2, g1⟩ := g1.pure (truthD_ne x)
    exact ⟨k, truth_of (S1.lookH o1 e1) e2, g1.here S1 .refl⟩
/-- a comparison as a test -/
theorem t_cmp {op : CmpOp} (hu : X.A.units + 65 < cLine) (ha : PE X a (RE X.K c W0 (evE call lo ia))) (hb : PE X b (RE X.K c W0 (evE call lo ib))) (hm : behindInMarks op b = false) : PT X (.Compare a [op] [b] pos) (RT X.K c W0 (evT call lo (.val (.cmp op ia ib)))) :=
  pt_imp (pt_cmpR (cmp_ok hu op) (pe_opd ha) (pe_opd hb) hm) fun σ H Q ⟨F, ρ, S, g⟩ => by
    have g : G X.K c W0 σ ρ F H ((opd (evE call lo (.cmp op ia ib) ρ)).bind fun r => (Res.need (look r.2 r.1)).bind fun x => (truthD x).bind fun b => .ok (b, r.2)) (fun b ρ' F' H' => Q b H') := g
    unfold opd at g
    have g2 : RE X.K c W0 (evE call lo (.cmp op ia ib)) σ H fun x H1 => ∃ k, x = .bl k ∧ Q k H1 := by
      refine ⟨F, ρ, S, ?_⟩
      have hbool : ∀ z ρ1, evE call lo (.cmp op ia ib) ρ = .ok (z, ρ1) → ∃ k, z = .d (.bool k) := fun z ρ1 e => by
        have e : twoD (evE call lo ia ρ) (fun ρ => evE call lo ib ρ) (fun x y => (cmpV op x y).bind fun k => .ok (.d (.bool k))) = .ok (z, ρ1) := e
        unfold twoD at e
        revert e
        cases opd (evE call lo ia ρ) with
        | bad => intro e; cases e
        | ex _ _ _ => intro e; cases e
        | ok r1 =>
          show ((opd (evE call lo ib r1.2)).bind _) = _ → _
          cases opd (evE call lo ib r1.2) with
          | bad => intro e; cases e
          | ex _ _ _ => intro e; cases e
          | ok r2 =>
            show ((Res.need (look r2.2 r1.1)).bind _) = _ → _
            cases look r2.2 r1.1 with
            | none => intro e; cases e
            | some x =>
              show ((Res.need (look r2.2 r2.1)).bind _) = _ → _
              cases look r2.2 r2.1 with
              | none => intro e; cases e
              | some y =>
                show (((cmpV op x y).bind _).bind _) = _ → _
                cases cmpV op x y with
                | bad => intro e; cases e
                | ex _ _ _ => intro e; cases e
                | ok k => intro e; cases e; exact ⟨k, rfl⟩
      revert g hbool
      cases evE call lo (.cmp op ia ib) ρ with
      | bad => exact fun g _ => g
      | ex _ _ _ => exact fun g _ => g
      | ok r =>
        intro g hb F1 H1 S1 X1 v hv
        obtain ⟨k, ek⟩ := hb r.1 r.2 rfl
        rw [ek] at hv
        refine ⟨k, Den.toBl hv, ?_⟩
        obtain ⟨z, ρ1⟩ := r
        have ek : z = .d (.bool k) := ek
        subst ek
        exact g F1 H1 S1 X1
    exact two_op (cmp_op op) (cmpK_ne op) g2
end
end PX
/-! PX, part g: calls, built-ins, slices. -/
namespace PX
open PySem PySem.Spec PyProof.Rows L2

def isStar : Expr → Bool
  | .Starred _ _ => true
  | _ => false
theorem notStar {e : Expr} (h : isStar e = false) : ∀ x p, e ≠ .Starred x p := by
  rintro x p rfl
  cases h
theorem star_any {pos : Pos} {env : PySem.Env} : ∀ {es : List Expr}, es.all (fun e => !isStar e) = true → (backTo pos (starEach es env)).any (·.1) = false
  | [], _ => rfl
  | e :: es, h => by
    simp only [List.all_cons, Bool.and_eq_true, Bool.not_eq_true'] at h
    rw [star_cons (notStar h.1)]
    show (false || (backTo pos (starEach es env)).any (·.1)) = false
    rw [star_any h.2]
    rfl
section
variable {X : Cx} {c : FC} {pos p : Pos} {P : Prog} {n : Nat} {kws : String → List (Nat × List String × List Nat)} {N : List Str} {sc : Scope}
theorem call_main {K : PySem.W.Frag} {c : FC} {call : CallT} {lo : String → Option (List Nat)} {f : String} {fs : Es} {σ : St} {F0 : Hp} {ρ : Env} {H : Hp} {Q : VK} (S : SR K c F0 H σ ρ) (g : G K c W0 σ ρ F0 H (evE call lo (.call f fs) ρ) (fun z ρ' F' H' => ∀ v, VR K c σ ρ' F' H' H v z → Q v H')) :
    tCall (spF K call f) [] E0 (RA K c W0 (evEs call lo fs)) σ H Q := by
  have g : G K c W0 σ ρ F0 H ((evEs call lo fs ρ).bind fun r => callV call lo f r.2 r.1) (fun z ρ' F' H' => ∀ v, VR K c σ ρ' F' H' H v z → Q v H') := g
  refine ⟨F0, ρ, S, g.bind.imp fun zs ρ1 F1 H1 S1 X1 g1 vs o => ?_⟩
  show spF K call f (vs ++ []) H1 Q E0
  rw [List.append_nil]
  exact call_ok S1 o (G.imp (r := callV call lo f ρ1 zs) g1 fun z ρ' F' H' _ _ q v hv => q v (hv.since X1.alive))
theorem e_call (hx : XC P n kws N sc X) {f : String} {fd : FDef} {e : Expr} {es : List Expr} {fs : Es} (hfd : P.lookup f = some fd) (hg : Gl X (Str.ofString f)) (hdb : (Str.ofString f == ("__debug__" : Str)) = false) (hst : (e :: es).all (fun e => !isStar e) = true)
    (ha : PA X (e :: es) (RA X.K c W0 (evEs (callN P n) (lentIn P) fs))) : PE X (.Call (.Name (Str.ofString f) p) (e :: es) [] pos) (RE X.K c W0 (evE (callN P n) (lentIn P) (.call f fs))) := by
  obtain ⟨fa, fdd, ps, F, hm, hk, hb, _⟩ := (hx.prog.fn f fd hfd).ex
  simp only [List.all_cons, Bool.and_eq_true, Bool.not_eq_true'] at hst
  exact re_of (pe_call F hx.room hg hm hk hb .nil pass0 ha hdb (star_cons (notStar hst.1)) (star_any hst.2)) call_main
theorem e_call0 (hx : XC P n kws N sc X) {f : String} {fd : FDef} (hfd : P.lookup f = some fd) (hg : Gl X (Str.ofString f)) (hdb : (Str.ofString f == ("__debug__" : Str)) = false) : PE X (.Call (.Name (Str.ofString f) p) [] [] pos) (RE X.K c W0 (evE (callN P n) (lentIn P) (.call f .nil))) := by
  obtain ⟨fa, fdd, ps, F, hm, hk, hb, _⟩ := (hx.prog.fn f fd hfd).ex
  refine re_of (pe_call0 F hx.room hg hm hk hb .nil pass0 hdb) fun {σ F0 ρ H Q} S g => ?_
  exact call_ok (E := E0) S .nil g
/-! keywords -/
theorem pe_callN0 {CX : CXT} {k : Nat} {fa : Addr} {fd : FuncData} {ps ks : List Str} {sp : Sp} {E : XK} {x : Str} {kw : List Keyword} {tk : TA} {g : List Value → List Value → List Value} {gV : List V → List V → List V}
    (F : FnOk X.prog X.w X.K X.mg X.base CX k fa fd ps sp) (hr : Room k X.A) (hg : Gl X x) (hm : X.mg x = some (.ref fa)) (hk : PySem.W.keepIn X.K (.ref fa) = true) (hb : KBn X.K fd ps 0 ks g gV) (hx : Passes CX X E)
    (hkw : PK X kw tk) (hall : (backToKw pos (keywordEach kw X.env)).all (·.1.isSome) = true) (hks : (backToKw pos (keywordEach kw X.env)).filterMap (·.1) = ks)
    (hdb : (x == ("__debug__" : Str)) = false) (hpl : ((backTo pos (starEach [] X.env)).any (·.1) || (backToKw pos (keywordEach kw X.env)).any (·.1.isNone)) = false) :
    PE X (.Call (.Name x p) [] kw pos) (tCallN 0 ks.length sp gV E tNil tk) := by
  refine ⟨fun pins s σ H Q I h => ?_⟩
  refine wpAny_Call_Name_kw (ld_glob I hg hm ?_ hdb)
  refine PySem.W.callWith_KW0 (h₀ := X.base) I.ok.mod.kin hk hall ?_ hpl
  refine thn (hkw.run pos pins s σ H _ I h) fun ws s2 ⟨zs, H2, I2, rz, l1, l2, q2⟩ => ⟨I2.kIn, ?_⟩
  rw [hks]
  exact run_fnN (us := []) (vs := []) F hr hb hx I2 .nil rz l1 l2 q2
theorem kw_all {env : PySem.Env} : ∀ {kw : List Keyword} {ks : List Str}, kw.map (·.arg) = ks.map some → (backToKw pos (keywordEach kw env)).all (·.1.isSome) = true ∧ (backToKw pos (keywordEach kw env)).filterMap (·.1) = ks ∧ (backToKw pos (keywordEach kw env)).any (·.1.isNone) = false
  | [], [], _ => ⟨rfl, rfl, rfl⟩
  | [], _ :: _, h => by cases h
  | _ :: _, [], h => by cases h
  | ⟨a, v, q⟩ :: kw, k :: ks, h => by
    rw [List.map_cons, List.map_cons] at h
    injection h with h1 h2
    have h1 : a = some k := h1
    subst h1
    obtain ⟨i1, i2, i3⟩ := kw_all (env := env) h2
    have e : backToKw pos (keywordEach (⟨some k, v, q⟩ :: kw) env) = (some k, do let v ← eval v env; standAt pos; pure v) :: backToKw pos (keywordEach kw env) := rfl
    rw [e]
    refine ⟨?_, ?_, ?_⟩
    · rw [List.all_cons, i1]; rfl
    · rw [List.filterMap_cons]; show k :: _ = _; rw [i2]
    · rw [List.any_cons, i3]; rfl
theorem pk_imp {kw : List Keyword} {t t' : TA} (h : PK X kw t) (hi : ∀ σ H Q, t' σ H Q → t σ H Q) : PK X kw t' := ⟨fun pos pins s σ H Q I q => h.run pos pins s σ H Q I (hi σ H Q q)⟩
theorem k_nil {call : CallT} {lo : String → Option (List Nat)} : PK X [] (RA X.K c W0 (evEs call lo .nil)) := pk_imp pk_nil fun σ H Q ⟨F, ρ, S, g⟩ => g.here S .refl [] .nil
theorem k_cons {call : CallT} {lo : String → Option (List Nat)} {e : Expr} {ie : E} {kw : List Keyword} {fs : Es} {nm : Option Str} {q : Pos} (he : PE X e (RE X.K c W0 (evE call lo ie))) (ht : PK X kw (RA X.K c W0 (evEs call lo fs))) :
    PK X (⟨nm, e, q⟩ :: kw) (RA X.K c W0 (evEs call lo (.cons ie fs))) :=
  pk_imp (pk_cons (pe_opd he) ht) fun σ H Q ⟨F, ρ, S, g⟩ => by
    have g : G X.K c W0 σ ρ F H ((opd (evE call lo ie ρ)).bind fun r => (evEs call lo fs r.2).bind fun q => .ok (r.1 :: q.1, q.2)) (fun zs ρ' F' H' => ∀ vs, ORL X.K F' σ vs zs → Q vs H') := g
    refine ⟨F, ρ, S, g.bind.imp fun z ρ1 F1 H1 S1 X1 g1 v o1 => ?_⟩
    refine ⟨F1, ρ1, S1, g1.bind.imp fun zs ρ2 F2 H2 S2 X2 g2 vs o2 => ?_⟩
    exact g2.here S2 .refl _ (.cons (o1.mono X2.exF) o2)
theorem ORL.append {K : PySem.W.Frag} {F : Hp} {σ : St} {vs ws : List V} {zs ys : List Val} (h : ORL K F σ vs zs) (h2 : ORL K F σ ws ys) : ORL K F σ (vs ++ ws) (zs ++ ys) := by
  induction h with
  | nil => exact h2
  | cons h1 _ ih => exact .cons h1 ih
/-- how many operands a list of arguments gives -/
def Es.len : Es → Nat
  | .nil => 0
  | .cons _ es => es.len + 1
theorem evEs_len {call : CallT} {lo : String → Option (List Nat)} : ∀ {fs : Es} {ρ : Env} {r : List Val × Env}, evEs call lo fs ρ = .ok r → r.1.length = fs.len
  | .nil, ρ, r, h => by cases h; rfl
  | .cons e es, ρ, r, h => by
    have h : (opd (evE call lo e ρ)).bind (fun r => (evEs call lo es r.2).bind fun q => .ok (r.1 :: q.1, q.2)) = .ok r := h
    revert h
    cases opd (evE call lo e ρ) with
    | bad => intro h; cases h
    | ex _ _ _ => intro h; cases h
    | ok r1 =>
      show (evEs call lo es r1.2).bind _ = _ → _
      cases hq : evEs call lo es r1.2 with
      | bad => intro h; cases h
      | ex _ _ _ => intro h; cases h
      | ok r2 => intro h; cases h; exact congrArg Nat.succ (evEs_len hq)
theorem callk_main {K : PySem.W.Frag} {c : FC} {call : CallT} {lo : String → Option (List Nat)} {f : String} {fs gs : Es} {names : List String} {perm : List Nat} {σ : St} {F0 : Hp} {ρ : Env} {H : Hp} {Q : VK} {m : Nat} (hm : fs.len = m) (S : SR K c F0 H σ ρ)
    (g : G K c W0 σ ρ F0 H (evE call lo (.callk f fs gs names perm) ρ) (fun z ρ' F' H' => ∀ v, VR K c σ ρ' F' H' H v z → Q v H')) :
    tCallN m (names.map Str.ofString).length (spF K call f) (fun vs zs => permL perm (vs ++ zs)) E0 (RA K c W0 (evEs call lo fs)) (RA K c W0 (evEs call lo gs)) σ H Q := by
  have g : G K c W0 σ ρ F0 H ((evEs call lo fs ρ).bind fun r => (evEs call lo gs r.2).bind fun q => (Res.need (perm.mapM fun i => (r.1 ++ q.1)[i]?)).bind fun vs => if q.1.length = names.length then callV call lo f q.2 vs else .bad) (fun z ρ' F' H' => ∀ v, VR K c σ ρ' F' H' H v z → Q v H') := g
  refine ⟨F0, ρ, S, ?_⟩
  have g1 := g.bind
  revert g1
  cases he : evEs call lo fs ρ with
  | bad => exact fun h => h
  | ex _ _ _ => exact fun h => h
  | ok r =>
    intro g1 F1 H1 S1 X1 vs o1
    have g1 := g1 F1 H1 S1 X1
    refine ⟨F1, r.2, S1, g1.bind.imp fun zs ρ2 F2 H2 S2 X2 g2 ws o2 => ?_⟩
    obtain ⟨ys, e1, g2⟩ := g2.need
    obtain ⟨hl, g2⟩ := g2.ite
    refine ⟨by rw [o1.length, evEs_len he, hm], by rw [o2.length, hl, List.length_map], ?_⟩
    have o3 := permL_orl perm ((o1.mono X2.exF).append o2)
    rw [permL_mapM e1] at o3
    exact call_ok S2 o3 (G.imp (r := callV call lo f ρ2 ys) g2 fun z ρ' F' H' _ _ q v hv => q v (hv.since fun a ha => X1.alive a (X2.alive a ha)))
theorem e_callk (hx : XC P n kws N sc X) {f : String} {fd : FDef} {es : List Expr} {kw : List Keyword} {fs gs : Es} {names : List String} {perm : List Nat} (hfd : P.lookup f = some fd) (hg : Gl X (Str.ofString f)) (hdb : (Str.ofString f == ("__debug__" : Str)) = false)
    (hst : es.all (fun e => !isStar e) = true) (hl : fs.len = es.length) (hn : kw.map (·.arg) = (names.map Str.ofString).map some) (hk : (es.length, names, perm) ∈ kws f)
    (ha : PA X es (RA X.K c W0 (evEs (callN P n) (lentIn P) fs))) (hkw : PK X kw (RA X.K c W0 (evEs (callN P n) (lentIn P) gs))) : PE X (.Call (.Name (Str.ofString f) p) es kw pos) (RE X.K c W0 (evE (callN P n) (lentIn P) (.callk f fs gs names perm))) := by
  obtain ⟨fa, fdd, ps, F, hm, hkp, _, hb⟩ := (hx.prog.fn f fd hfd).ex
  have hb := hb _ hk
  obtain ⟨k1, k2, k3⟩ := kw_all (pos := pos) (env := X.env) hn
  cases es with
  | nil =>
    refine re_of (pe_callN0 (p := p) F hx.room hg hm hkp hb pass0 hkw k1 k2 hdb (by rw [k3]; rfl)) fun {σ F0 ρ H Q} S g => ?_
    have q := callk_main hl S g
    obtain ⟨F1, ρ1, S1, g1⟩ := q
    cases fs with
    | cons _ _ => cases hl
    | nil => exact g1.here S1 .refl [] .nil
  | cons e es =>
    simp only [List.all_cons, Bool.and_eq_true, Bool.not_eq_true'] at hst
    exact re_of (pe_callN F hx.room hg hm hkp hb pass0 ha hkw k1 k2 hdb (star_cons (notStar hst.1)) (by rw [k3, star_cons (notStar hst.1)]; show (false || (backTo pos (starEach es X.env)).any (·.1) || false) = false; rw [star_any hst.2]; rfl)) (callk_main hl)

/-! ### built-ins -/
theorem bi_free (b : Bi) : biName b ∈ freeNames := by cases b <;> decide +kernel
theorem e_bi (hx : XC P n kws N sc X) {call : CallT} {lo : String → Option (List Nat)} (b : Bi) {e : Expr} {es : List Expr} {fs : Es} (hg : Gl X (biName b)) (hst : (e :: es).all (fun e => !isStar e) = true) (ha : PA X (e :: es) (RA X.K c W0 (evEs call lo fs))) :
    PE X (.Call (.Name (biName b) p) (e :: es) [] pos) (RE X.K c W0 (evE call lo (.bi b fs))) := by
  simp only [List.all_cons, Bool.and_eq_true, Bool.not_eq_true'] at hst
  have hm := hx.prog.free _ (bi_free b)
  have rd : PE X (.Call (.Name (biName b) p) (e :: es) [] pos) (tCB (rBi X.K b) (RA X.K c W0 (evEs call lo fs))) := by
    have ok := bi_ok hx.calm b
    have bt := bi_boot b
    cases b <;> first
      | exact pe_callB ok hg hm bt ha (by decide +kernel) (by decide +kernel) (star_cons (notStar hst.1)) (star_any hst.2)
      | exact pe_callTy ok hg hm bt ha (by decide +kernel) (by decide +kernel) (star_cons (notStar hst.1)) (star_any hst.2)
  refine re_of rd fun {σ F ρ H Q} S g => ?_
  have g : G X.K c W0 σ ρ F H ((evEs call lo fs ρ).bind fun r => (Res.need (lookL r.2 r.1)).bind fun ds => (biV b ds).bind fun v => .ok (v, r.2)) (fun z ρ' F' H' => ∀ v, VR X.K c σ ρ' F' H' H v z → Q v H') := g
  refine ⟨F, ρ, S, g.bind.imp fun zs ρ1 F1 H1 S1 X1 g1 vs o => ?_⟩
  obtain ⟨ds, e1, g1⟩ := g1.need
  obtain ⟨u, e2, g1⟩ := g1.pure (biV_ne b ds)
  exact bi_op b S1 o e1 e2 fun F' H' v' S' X' hv => g1.here S' X' v' (hv.since X1.alive)
theorem ty_free (t : Ty) : Str.ofString (tyName t) ∈ freeNames := by cases t <;> decide +kernel
theorem ty_boot (t : Ty) : bootBuiltins (Str.ofString (tyName t)) = some (.type (tyName t)) := by cases t <;> decide +kernel
theorem e_isi (hx : XC P n kws N sc X) {call : CallT} {lo : String → Option (List Nat)} (t : Ty) {e : Expr} {ie : E} {q : Pos} (hg : Gl X "isinstance") (hg2 : Gl X (Str.ofString (tyName t))) (hst : isStar e = false) (ha : PE X e (RE X.K c W0 (evE call lo ie))) :
    PE X (.Call (.Name "isinstance" p) [e, .Name (Str.ofString (tyName t)) q] [] pos) (RE X.K c W0 (evE call lo (.isi ie t))) := by
  have hm := hx.prog.free "isinstance" (by decide +kernel)
  have hm2 := hx.prog.free _ (ty_free t)
  have h2 : PE X (.Name (Str.ofString (tyName t)) q) (tC (.ty (tyName t))) := pe_bltn hg2 hm2 (ty_boot t) rfl (by cases t <;> decide +kernel) (by cases t <;> decide +kernel)
  refine re_of (pe_callB call_isi hg hm (by decide +kernel) (pa_cons (pe_opd ha) (pa_cons h2 pa_nil) (star_cons (notStar hst))) (by decide +kernel) (by decide +kernel) (star_cons (notStar hst)) rfl) fun {σ F ρ H Q} S g => ?_
  exact one_op (isi_op t) ok_ne ⟨F, ρ, S, g⟩

theorem e_isi2 (hx : XC P n kws N sc X) {call : CallT} {lo : String → Option (List Nat)} (t t2 : Ty) {e : Expr} {ie : E} {q q2 qt : Pos} {k : Nat} (hg : Gl X "isinstance") (hg2 : Gl X (Str.ofString (tyName t))) (hg3 : Gl X (Str.ofString (tyName t2))) (hst : isStar e = false) (ha : PE X e (RE X.K c W0 (evE call lo ie))) :
    PE X (.Call (.Name "isinstance" p) [e, .Tuple [.Name (Str.ofString (tyName t)) q, .Name (Str.ofString (tyName t2)) q2] k qt] [] pos) (RE X.K c W0 (evE call lo (.isi2 ie t t2))) := by
  have hm := hx.prog.free "isinstance" (by decide +kernel)
  have hm2 := hx.prog.free _ (ty_free t)
  have hm3 := hx.prog.free _ (ty_free t2)
  have h2 : PE X (.Name (Str.ofString (tyName t)) q) (tC (.ty (tyName t))) := pe_bltn hg2 hm2 (ty_boot t) rfl (by cases t <;> decide +kernel) (by cases t <;> decide +kernel)
  have h3 : PE X (.Name (Str.ofString (tyName t2)) q2) (tC (.ty (tyName t2))) := pe_bltn hg3 hm3 (ty_boot t2) rfl (by cases t2 <;> decide +kernel) (by cases t2 <;> decide +kernel)
  refine re_of (pe_callB call_isiT hg hm (by decide +kernel) (pa_cons (pe_opd ha) (pa_cons (pe_tup (pa_cons h2 (pa_cons h3 pa_nil))) pa_nil) (star_cons (notStar hst))) (by decide +kernel) (by decide +kernel) (star_cons (notStar hst)) rfl) fun {σ F ρ H Q} S g => ?_
  obtain ⟨F1, ρ1, S1, g1⟩ := one_op (fa := evE call lo ie) (isi2_op t t2) ok_ne ⟨F, ρ, S, g⟩
  exact ⟨F1, ρ1, S1, g1.imp fun z ρ2 F2 H2 _ _ hk v o => ⟨by show 2 ≤ sizeLine; decide, fun tp htp => hk v o tp htp⟩⟩

/-! ### slices -/
variable {call : CallT} {lo : String → Option (List Nat)} {a l h : Expr} {ia il ih : E} {p2 : Pos}
theorem e_sl00 (ha : PE X a (RE X.K c W0 (evE call lo ia))) : PE X (.Subscript a (.Slice none none none p2) pos) (RE X.K c W0 (evE call lo (.sl00 ia))) :=
  pe_imp (pe_slice slc_ok (pe_opd ha) po_none po_none) fun σ H Q q => one_op (sl_op none none) (fun x => slV_ne x none none) q
theorem opd_int {K : PySem.W.Frag} {c : FC} {σ : St} {ρ0 ρ : Env} {F H : Hp} {r : Res (Val × Env)} {f : Int → Env → Res (Val × Env)} {k : Val → Env → Hp → Hp → Prop}
    (g : G K c W0 σ ρ F H (r.bind fun l => (Res.need (asInt l.1)).bind fun i => f i l.2) k) : G K c W0 σ ρ F H (opd r) fun z ρ' F' H' => ∀ v, OR K F' σ v z → ∃ i, v = .int i ∧ G K c W0 σ ρ' F' H' (f i ρ') k := by
  have g1 := g.bind
  unfold opd
  revert g1
  cases r with
  | bad => exact fun q => q
  | ex _ _ _ => exact fun q => q
  | ok q =>
    intro g1 F1 H1 S1 X1 v o
    obtain ⟨z, ρ1⟩ := q
    cases z with
    | d x =>
      obtain ⟨i, e, g2⟩ := (g1 F1 H1 S1 X1).need
      have e := asInt_some e
      cases e
      exact ⟨i, Den.toInt o, g2⟩
    | own j =>
      obtain ⟨i, e, g2⟩ := (g1 F1 H1 S1 X1).need
      cases e
    | fr xs =>
      obtain ⟨i, e, g2⟩ := (g1 F1 H1 S1 X1).need
      cases e
theorem e_sl10 (ha : PE X a (RE X.K c W0 (evE call lo ia))) (hl : PE X l (RE X.K c W0 (evE call lo il))) : PE X (.Subscript a (.Slice (some l) none none p2) pos) (RE X.K c W0 (evE call lo (.sl10 ia il))) :=
  re_of (pe_slice slc_ok (pe_opd ha) (po_some (pe_opd hl)) po_none) fun {σ F ρ H Q} S g => by
    have g : G X.K c W0 σ ρ F H ((opd (evE call lo ia ρ)).bind fun r => (evE call lo il r.2).bind fun l => (Res.need (asInt l.1)).bind fun i => (Res.need (look l.2 r.1)).bind fun x => (slV x (some i) none).bind fun v => .ok (v, l.2)) (fun z ρ' F' H' => ∀ v, VR X.K c σ ρ' F' H' H v z → Q v H') := g
    refine ⟨F, ρ, S, g.bind.imp fun z ρ1 F1 H1 S1 X1 g1 v o1 => ?_⟩
    refine ⟨F1, ρ1, S1, (opd_int (ρ0 := ρ) (f := fun i ρ2 => (Res.need (look ρ2 z)).bind fun x => (slV x (some i) none).bind fun v => .ok (v, ρ2)) g1).imp fun z2 ρ2 F2 H2 S2 X2 g2 w o2 => ?_⟩
    obtain ⟨i, rfl, g2⟩ := g2 w o2
    obtain ⟨x, e1, g2⟩ := g2.need
    obtain ⟨u, e2, g2⟩ := g2.pure (slV_ne x _ _)
    exact ⟨i, rfl, sl_op (some i) none S2 (o1.mono X2.exF) e1 e2 fun F' H' v' S' X' hv => g2.here S' X' v' (hv.since fun q hq => X1.alive q (X2.alive q hq))⟩
theorem e_sl01 (ha : PE X a (RE X.K c W0 (evE call lo ia))) (hl : PE X l (RE X.K c W0 (evE call lo il))) : PE X (.Subscript a (.Slice none (some l) none p2) pos) (RE X.K c W0 (evE call lo (.sl01 ia il))) :=
  re_of (pe_slice slc_ok (pe_opd ha) po_none (po_some (pe_opd hl))) fun {σ F ρ H Q} S g => by
    have g : G X.K c W0 σ ρ F H ((opd (evE call lo ia ρ)).bind fun r => (evE call lo il r.2).bind fun l => (Res.need (asInt l.1)).bind fun i => (Res.need (look l.2 r.1)).bind fun x => (slV x none (some i)).bind fun v => .ok (v, l.2)) (fun z ρ' F' H' => ∀ v, VR X.K c σ ρ' F' H' H v z → Q v H') := g
    refine ⟨F, ρ, S, g.bind.imp fun z ρ1 F1 H1 S1 X1 g1 v o1 => ?_⟩
    refine ⟨F1, ρ1, S1, (opd_int (ρ0 := ρ) (f := fun i ρ2 => (Res.need (look ρ2 z)).bind fun x => (slV x none (some i)).bind fun v => .ok (v, ρ2)) g1).imp fun z2 ρ2 F2 H2 S2 X2 g2 w o2 => ?_⟩
    obtain ⟨i, rfl, g2⟩ := g2 w o2
    obtain ⟨x, e1, g2⟩ := g2.need
    obtain ⟨u, e2, g2⟩ := g2.pure (slV_ne x _ _)
    exact ⟨i, rfl, sl_op none (some i) S2 (o1.mono X2.exF) e1 e2 fun F' H' v' S' X' hv => g2.here S' X' v' (hv.since fun q hq => X1.alive q (X2.alive q hq))⟩
theorem e_sl11 (ha : PE X a (RE X.K c W0 (evE call lo ia))) (hl : PE X l (RE X.K c W0 (evE call lo il))) (hh : PE X h (RE X.K c W0 (evE call lo ih))) : PE X (.Subscript a (.Slice (some l) (some h) none p2) pos) (RE X.K c W0 (evE call lo (.sl11 ia il ih))) :=
  re_of (pe_slice slc_ok (pe_opd ha) (po_some (pe_opd hl)) (po_some (pe_opd hh))) fun {σ F ρ H Q} S g => by
    have g : G X.K c W0 σ ρ F H ((opd (evE call lo ia ρ)).bind fun r => (evE call lo il r.2).bind fun l => (Res.need (asInt l.1)).bind fun i => (evE call lo ih l.2).bind fun h => (Res.need (asInt h.1)).bind fun j => (Res.need (look h.2 r.1)).bind fun x => (slV x (some i) (some j)).bind fun v => .ok (v, h.2)) (fun z ρ' F' H' => ∀ v, VR X.K c σ ρ' F' H' H v z → Q v H') := g
    refine ⟨F, ρ, S, g.bind.imp fun z ρ1 F1 H1 S1 X1 g1 v o1 => ?_⟩
    refine ⟨F1, ρ1, S1, (opd_int (ρ0 := ρ) (f := fun i ρ2 => (evE call lo ih ρ2).bind fun h => (Res.need (asInt h.1)).bind fun j => (Res.need (look h.2 z)).bind fun x => (slV x (some i) (some j)).bind fun v => .ok (v, h.2)) g1).imp fun z2 ρ2 F2 H2 S2 X2 g2 w o2 => ?_⟩
    obtain ⟨i, rfl, g2⟩ := g2 w o2
    refine ⟨i, rfl, F2, ρ2, S2, (opd_int (ρ0 := ρ) (f := fun j ρ3 => (Res.need (look ρ3 z)).bind fun x => (slV x (some i) (some j)).bind fun v => .ok (v, ρ3)) g2).imp fun z3 ρ3 F3 H3 S3 X3 g3 w3 o3 => ?_⟩
    obtain ⟨j, rfl, g3⟩ := g3 w3 o3
    obtain ⟨x, e1, g3⟩ := g3.need
    obtain ⟨u, e2, g3⟩ := g3.pure (slV_ne x _ _)
    exact ⟨j, rfl, sl_op (some i) (some j) S3 (o1.mono (X2.exF.trans X3.exF)) e1 e2 fun F' H' v' S' X' hv => g3.here S' X' v' (hv.since fun q hq => X1.alive q (X2.alive q (X3.alive q hq)))⟩
end
end PX
/-! PX, part h: targets, what is walked, comprehensions. -/
namespace PX
open PySem PySem.Spec PyProof.Rows L2

/-! ### stores -/
section
variable {K : PySem.W.Frag} {c : FC} {F H : Hp} {σ : St} {ρ : Env}
theorem slot_set_ne {i j : Nat} {s : Slot} (h : i ≠ j) : slot (ρ.set i s) j = slot ρ j := by rw [slot_set, if_neg fun z => h z.1]
theorem slot_set_eq {i : Nat} {s : Slot} (h : i < ρ.length) : slot (ρ.set i s) i = s := by rw [slot_set, if_pos ⟨rfl, h⟩]
/-- a slot is given other contents: the others stay -/
theorem SR.put (S : SR K c F H σ ρ) {i : Nat} {s : Slot} {w : Option V} (hi : i < ρ.length) (hs : match s with
    | .un => True
    | .fz d => ∃ v, w = some v ∧ Den K F v d
    | .ow xs => ∃ a vs, w = some (.ref a) ∧ H a = some (.lst vs) ∧ F a = none ∧ c.H0 a = none ∧ DenL K F vs xs ∧ ¬ owned σ ρ a
    | .io _ => False) : SR K c F H (σ.set i w) (ρ.set i s) := by
  have hiσ : i < σ.length := by rw [S.len]; exact hi
  have gs : ∀ j, j ≠ i → (σ.set i w)[j]? = σ[j]? := fun j h => List.getElem?_set_ne (Ne.symm h)
  have gi : (σ.set i w)[i]? = some w := List.getElem?_set_self hiσ
  refine ⟨by rw [List.length_set, List.length_set]; exact S.len, S.exB, S.dom, S.exF, S.keep, S.iol, S.hl, fun j d e => ?_, fun j xs e => ?_, fun j xs e => ?_, fun j k a h1 h2 e1 e2 => ?_⟩
  · by_cases q : j = i
    · subst q
      rw [slot_set_eq hi] at e
      subst e
      obtain ⟨v, rfl, dv⟩ := hs
      exact ⟨v, gi, dv⟩
    · rw [slot_set_ne (Ne.symm q)] at e
      rw [gs j q]; exact S.fz j d e
  · by_cases q : j = i
    · subst q
      rw [slot_set_eq hi] at e
      subst e
      obtain ⟨a, vs, rfl, h1, h2, h3, h4, _⟩ := hs
      exact ⟨a, vs, gi, h1, h2, h3, h4⟩
    · rw [slot_set_ne (Ne.symm q)] at e
      rw [gs j q]; exact S.ow j xs e
  · by_cases q : j = i
    · subst q
      rw [slot_set_eq hi] at e
      subst e
      exact hs.elim
    · rw [slot_set_ne (Ne.symm q)] at e
      rw [gs j q]; exact S.io j xs e
  · have one : ∀ {p q : Nat} {b : Addr}, p = i → q ≠ i → isOwn (slot (ρ.set i s) p) = true → isOwn (slot (ρ.set i s) q) = true → (σ.set i w)[p]? = some (some (.ref b)) → (σ.set i w)[q]? = some (some (.ref b)) → False := fun {p q b} hp hq o1 o2 f1 f2 => by
      rw [hp, slot_set_eq hi] at o1
      rw [slot_set_ne (Ne.symm hq)] at o2
      rw [hp, gi] at f1
      rw [gs q hq] at f2
      cases s with
      | un => cases o1
      | fz _ => cases o1
      | io _ => exact hs
      | ow xs =>
        obtain ⟨b', vs, hw, _, _, _, _, n⟩ := hs
        rw [hw] at f1
        cases f1
        exact n ⟨q, o2, f2⟩
    by_cases qj : j = i
    · by_cases qk : k = i
      · rw [qj, qk]
      · exact (one qj qk h1 h2 e1 e2).elim
    · by_cases qk : k = i
      · exact (one qk qj h2 h1 e2 e1).elim
      · rw [slot_set_ne (Ne.symm qj)] at h1
        rw [slot_set_ne (Ne.symm qk)] at h2
        rw [gs j qj] at e1
        rw [gs k qk] at e2
        exact S.sep j k a h1 h2 e1 e2
theorem SR.storeD (S : SR K c F H σ ρ) {i : Nat} {v : V} {d : D} (hi : i < ρ.length) (h : Den K F v d) : SR K c F H (σ.set i (some v)) (ρ.set i (.fz d)) := S.put hi ⟨v, rfl, h⟩
theorem wipe_get {σ : St} {i : Nat} {vs : List Nat} : (wipe σ vs)[i]? = if i ∈ vs ∧ i < σ.length then some none else σ[i]? := by
  induction vs with
  | nil => simp [wipe]
  | cons v vs ih =>
    unfold wipe
    rw [List.getElem?_set, wipe_length, ih]
    by_cases h : v = i
    · subst h
      by_cases h2 : v < σ.length
      · simp [h2]
      · simp [h2]
    · have h' : ¬ i = v := fun z => h z.symm
      simp [h, h']
theorem wipeE_len {ρ : Env} : ∀ {is : List Nat}, (wipeE ρ is).length = ρ.length
  | [] => rfl
  | i :: is => by unfold wipeE; rw [List.length_set, wipeE_len]
theorem wipeE_slot {ρ : Env} {i : Nat} : ∀ {is : List Nat}, slot (wipeE ρ is) i = if i ∈ is then .un else slot ρ i
  | [] => by simp [wipeE]
  | j :: is => by
    unfold wipeE
    rw [slot_set, wipeE_slot, wipeE_len]
    by_cases h : j = i
    · subst h
      by_cases h2 : j < ρ.length
      · simp [h2]
      · have : slot ρ j = .un := by unfold slot; rw [List.getElem?_eq_none (by omega)]; rfl
        simp [h2, this]
    · have h' : ¬ i = j := fun z => h z.symm
      simp [h, h']
theorem SR.wiped (S : SR K c F H σ ρ) (vs : List Nat) : SR K c F H (wipe σ vs) (wipeE ρ vs) := by
  have nw : ∀ j, slot (wipeE ρ vs) j ≠ .un → j ∉ vs ∧ slot (wipeE ρ vs) j = slot ρ j ∧ (wipe σ vs)[j]? = σ[j]? := fun j h => by
    rw [wipeE_slot] at h ⊢
    by_cases q : j ∈ vs
    · rw [if_pos q] at h; exact absurd rfl h
    · rw [if_neg q]
      refine ⟨q, rfl, ?_⟩
      rw [wipe_get, if_neg fun z => q z.1]
  refine ⟨by rw [wipe_length, wipeE_len]; exact S.len, S.exB, S.dom, S.exF, S.keep, S.iol, S.hl, fun j d e => ?_, fun j xs e => ?_, fun j xs e => ?_, fun j k a h1 h2 e1 e2 => ?_⟩
  · obtain ⟨_, q2, q3⟩ := nw j (by rw [e]; intro z; cases z)
    rw [q3]; exact S.fz j d (q2 ▸ e)
  · obtain ⟨_, q2, q3⟩ := nw j (by rw [e]; intro z; cases z)
    rw [q3]; exact S.ow j xs (q2 ▸ e)
  · obtain ⟨_, q2, q3⟩ := nw j (by rw [e]; intro z; cases z)
    rw [q3]; exact S.io j xs (q2 ▸ e)
  · obtain ⟨_, q2, q3⟩ := nw j (by intro z; rw [z] at h1; cases h1)
    obtain ⟨_, p2, p3⟩ := nw k (by intro z; rw [z] at h2; cases h2)
    rw [q2] at h1
    rw [p2] at h2
    rw [q3] at e1
    rw [p3] at e2
    exact S.sep j k a h1 h2 e1 e2
/-- what nobody holds may change -/
theorem SR.mutD (S : SR K c F H σ ρ) {p : Addr} {o : HO} (hF : F p = none) (h0 : c.H0 p = none) (n : ¬ owned σ ρ p) (hz : HLen K (upd H p o)) : SR K c F (upd H p o) σ ρ where
  len := S.len
  exB := S.exB
  dom := S.dom
  exF := fun a u e => by
    rw [upd_ne (fun z => by rw [z, hF] at e; cases e)]; exact S.exF a u e
  keep := fun a u e m => by
    rw [upd_ne (fun z => by rw [z, h0] at e; cases e)]; exact S.keep a u e m
  iol := fun a ha => by
    obtain ⟨m, vs, e⟩ := S.iol a ha
    exact ⟨m, vs, by rw [upd_ne (fun z => m (by rw [z]; exact h0))]; exact e⟩
  hl := hz
  fz := S.fz
  ow := fun i xs e => by
    obtain ⟨a, vs, h1, h2, h3⟩ := S.ow i xs e
    refine ⟨a, vs, h1, ?_, h3⟩
    rw [upd_ne (fun z => n (by rw [← z]; exact ⟨i, by rw [e]; rfl, h1⟩))]; exact h2
  io := fun i xs e => by
    obtain ⟨a, vs, h1, h2, h3⟩ := S.io i xs e
    refine ⟨a, vs, h1, ?_, h3⟩
    rw [upd_ne (fun z => n (by rw [← z]; exact ⟨i, by rw [e]; rfl, h1⟩))]; exact h2
  sep := S.sep
end
end PX
/-! PX, part i: targets, what is walked, comprehensions. -/
namespace PX
open PySem PySem.Spec PyProof.Rows L2

/-! ### targets -/
def tgIdx : Tg → List Nat
  | .nm i => [i]
  | .tp is => is
def RGt (K : PySem.W.Frag) (c : FC) (tg : Tg) : TG := fun v σ H Q => ∃ F ρ d ρ', SR K c F H σ ρ ∧ Den K F v d ∧ storeTg ρ tg d = some ρ' ∧ ∀ σ', SR K c F H σ' ρ' → (∀ vs, (∀ i ∈ tgIdx tg, i ∈ vs) → wipe σ' vs = wipe σ vs) → Q σ' H
theorem pg_imp {X : Cx} {e : Expr} {t t' : TG} (h : PG X e t) (hi : ∀ v σ H Q, t' v σ H Q → t v σ H Q) : PG X e t' := ⟨fun pins s σ H v u Q I r q => h.run pins s σ H v u Q I r (hi v σ H Q q)⟩
theorem wipe_set {σ : St} {i : Nat} {w : Option V} {vs : List Nat} (h : i ∈ vs) : wipe (σ.set i w) vs = wipe σ vs := by
  refine List.ext_getElem? fun j => ?_
  rw [wipe_get, wipe_get, List.length_set]
  by_cases q : j ∈ vs ∧ j < σ.length
  · rw [if_pos q, if_pos q]
  · rw [if_neg q, if_neg q]
    by_cases e : i = j
    · subst e
      have : ¬ i < σ.length := fun z => q ⟨h, z⟩
      rw [List.getElem?_set]
      simp [this]
    · rw [List.getElem?_set_ne e]
theorem storeN_some {ρ ρ' : Env} {i : Nat} {d : D} (e : storeN ρ i d = some ρ') : i < ρ.length ∧ ρ' = ρ.set i (.fz d) := by
  have fin : (if i < ρ.length then some (ρ.set i (.fz d)) else none) = some ρ' → i < ρ.length ∧ ρ' = ρ.set i (.fz d) := fun e => by
    split at e
    · rename_i hl
      cases e
      exact ⟨hl, rfl⟩
    · cases e
  unfold storeN at e
  cases hk : slot ρ i with
  | io _ => rw [hk] at e; cases e
  | un => rw [hk] at e; exact fin e
  | fz _ => rw [hk] at e; exact fin e
  | ow _ => rw [hk] at e; exact fin e
section
variable {X : Cx} {c : FC} {pos : Pos} {P : Prog} {n : Nat} {kws : String → List (Nat × List String × List Nat)} {N : List Str} {sc : Scope}
theorem g_nm {i : Nat} {x : Str} (hN : X.N.Nodup) (hi : X.N[i]? = some x) (hx : Loc X.env.scope x) (hf : X.fn x = true ∨ X.env.scope.names.lookup x = some .local) : PG X (.Name x pos) (RGt X.K c (.nm i)) :=
  pg_imp (pg_name hN hi hx hf) fun v σ H Q ⟨F, ρ, d, ρ', S, dv, e, q⟩ => by
    obtain ⟨hl, rfl⟩ := storeN_some e
    exact q _ (S.storeD hl dv) fun vs hv => wipe_set (hv i (by simp [tgIdx]))
/-- names in a row -/
inductive Nms (X : Cx) : List Expr → List Nat → Prop
  | nil : Nms X [] []
  | cons {x : Str} {i : Nat} {p : Pos} {es : List Expr} {is : List Nat} : X.N[i]? = some x → Loc X.env.scope x → (X.fn x = true ∨ X.env.scope.names.lookup x = some .local) → Nms X es is → Nms X (.Name x p :: es) (i :: is)
def setAll : St → List Nat → List V → St
  | σ, i :: is, v :: vs => setAll (σ.set i (some v)) is vs
  | σ, _, _ => σ
def gNms (is : List Nat) : TGs := fun vs σ H Q => vs.length = is.length ∧ Q (setAll σ is vs) H
theorem Nms.length {es : List Expr} {is : List Nat} (h : Nms X es is) : es.length = is.length := by
  induction h with
  | nil => rfl
  | cons _ _ _ _ ih => exact congrArg Nat.succ ih
theorem pgs_nms (hN : X.N.Nodup) {es : List Expr} {is : List Nat} (h : Nms X es is) : PGs X es (gNms is) := by
  induction h with
  | nil => exact ⟨fun pins s σ H vs us Q I r hq => pgs_nil.run pins s σ H vs us Q I r ⟨List.length_eq_zero_iff.mp hq.1, by
      have e := List.length_eq_zero_iff.mp hq.1
      subst e
      exact hq.2⟩⟩
  | @cons x i p es is h1 h2 h3 _ ih =>
    refine ⟨fun pins s σ H vs us Q I r hq => (pgs_cons (pg_name (pos := p) hN h1 h2 h3) ih rfl).run pins s σ H vs us Q I r ?_⟩
    obtain ⟨hl, hq⟩ := hq
    cases vs with
    | nil => cases hl
    | cons v vs => exact ⟨v, vs, rfl, by simpa using hl, hq⟩
theorem nms_assign {es : List Expr} {is : List Nat} (h : Nms X es is) : (assignEach es X.env).length = is.length ∧ (assignEach es X.env).findIdx? (·.1) = none := by
  induction h with
  | nil => exact ⟨rfl, rfl⟩
  | @cons x i p es is _ _ _ _ ih =>
    have e : assignEach (.Name x p :: es) X.env = (false, assign (.Name x p) X.env) :: assignEach es X.env := rfl
    rw [e]
    refine ⟨congrArg Nat.succ ih.1, ?_⟩
    rw [List.findIdx?_cons, ih.2]
    rfl
theorem storeAll_ok {F H : Hp} : ∀ {is : List Nat} {ds : List D} {vs : List V} {σ : St} {ρ ρ' : Env}, SR X.K c F H σ ρ → DenL X.K F vs ds → storeAll ρ is ds = some ρ' →
    SR X.K c F H (setAll σ is vs) ρ' ∧ ∀ ws, (∀ i ∈ is, i ∈ ws) → wipe (setAll σ is vs) ws = wipe σ ws
  | [], [], _, σ, ρ, ρ', S, .nil, e => by
    cases e
    exact ⟨S, fun _ _ => rfl⟩
  | i :: is, d :: ds, _, σ, ρ, ρ', S, .cons h t, e => by
    unfold storeAll at e
    cases h1 : storeN ρ i d with
    | none => rw [h1] at e; cases e
    | some ρ1 =>
      rw [h1] at e
      obtain ⟨hl, rfl⟩ := storeN_some h1
      obtain ⟨h1, h2⟩ := storeAll_ok (S.storeD hl h) t e
      exact ⟨h1, fun ws hw => (h2 ws fun j hj => hw j (List.mem_cons_of_mem _ hj)).trans (wipe_set (hw i List.mem_cons_self))⟩
  | [], _ :: _, _, _, _, _, _, _, e => by cases e
  | _ :: _, [], _, _, _, _, _, _, e => by cases e
theorem g_tp (hc : X.calm = true) (hN : X.N.Nodup) {es : List Expr} {is : List Nat} {k : Nat} (h : Nms X es is) : PG X (.Tuple es k pos) (RGt X.K c (.tp is)) :=
  pg_imp (pg_tup (n := is.length) hc (pgs_nms hN h) (nms_assign h).1 (nms_assign h).2) fun v σ H Q ⟨F, ρ, d, ρ', S, dv, e, q⟩ => by
    cases dv with
    | @tup a vs xs h1 h2 =>
      have e : (if is.length = xs.length then storeAll ρ is xs else none) = some ρ' := e
      split at e
      · rename_i hl
        obtain ⟨s1, s2⟩ := storeAll_ok S h2 e
        exact ⟨_, _, rfl, S.exF.st h1, by rw [h2.length, hl], by rw [h2.length, hl], q _ s1 s2⟩
      · cases e
    | _ => cases e

/-! ### what is walked -/
/-- the iterator gives this data, as long as F0 stands -/
def WalkD (K : PySem.W.Frag) (c : FC) (J : It) (ds : List D) (F0 : Hp) : Prop := ∀ (Fx Hx : Hp) (σx : St) (ρx : Env), SR K c Fx Hx σx ρx → Sm F0 Fx →
  (∀ i, ds.length ≤ i → J.stop i Hx) ∧ ∀ i d, ds[i]? = some d → J.go i Hx ∧ ∀ x H2, J.yld i Hx x H2 → ∃ F2, SR K c F2 H2 σx ρx ∧ Ext σx ρx Fx Hx ρx F2 H2 ∧ Den K F2 x d
def RI (K : PySem.W.Frag) (c : FC) (f : Env → Res (List D × Env)) : TI := fun σ H R => ∃ F ρ, SR K c F H σ ρ ∧ G K c W0 σ ρ F H (f ρ) fun ds ρ' F' H' => ∀ J, WalkD K c J ds F' → ds.length ≤ sizeLine → R J H'
theorem pi_imp {tg iter : Expr} {t t' : TI} (h : PI X tg iter t) (hi : ∀ σ H R, t' σ H R → t σ H R) : PI X tg iter t' := ⟨fun pins s σ H R I q => h.run pins s σ H R I (hi σ H R q)⟩
theorem pi_or {tg iter : Expr} {t t' : TI} (h : PI X tg iter t) (h' : PI X tg iter t') : PI X tg iter fun σ H R => t σ H R ∨ t' σ H R := ⟨fun pins s σ H R I q => q.elim (h.run pins s σ H R I) (h'.run pins s σ H R I)⟩
theorem walk_l {K : PySem.W.Frag} {F0 : Hp} {a : Addr} {vs : List V} {ds : List D} (h : SqP K F0 a vs) (d : DenL K F0 vs ds) : WalkD K c (Itl K a) ds F0 := fun Fx Hx σx ρx S e => by
  have hs : SqL K Hx a vs := ((e.trans S.exF).sp h).sl
  have un : ∀ ys, SqL K Hx a ys → ys = vs → True := fun _ _ _ => trivial
  refine ⟨fun i hi => ⟨vs, hs, by rw [d.length]; exact hi⟩, fun i x hx => ?_⟩
  obtain ⟨v, h1, h2⟩ := d.get hx
  refine ⟨⟨vs, v, hs, h1⟩, fun y H2 hy => ?_⟩
  obtain ⟨rfl, hy⟩ := hy
  have := hy vs hs
  rw [h1] at this
  cases this
  exact ⟨Fx, S, .refl, h2.mono e⟩
theorem walk_t {K : PySem.W.Frag} {F0 : Hp} {a : Addr} {vs : List V} {ds : List D} (h : SqT K F0 a vs) (d : DenL K F0 vs ds) : WalkD K c (Itt K a) ds F0 := fun Fx Hx σx ρx S e => by
  have hs : SqT K Hx a vs := (e.trans S.exF).st h
  refine ⟨fun i hi => ⟨vs, hs, by rw [d.length]; exact hi⟩, fun i x hx => ?_⟩
  obtain ⟨v, h1, h2⟩ := d.get hx
  refine ⟨⟨vs, v, hs, h1⟩, fun y H2 hy => ?_⟩
  obtain ⟨rfl, hy⟩ := hy
  have := hy vs hs
  rw [h1] at this
  cases this
  exact ⟨Fx, S, .refl, h2.mono e⟩
theorem walk_r {K : PySem.W.Frag} {F0 : Hp} {lo : Int} {m : Nat} {ds : List D} (hd : ds = (List.range m).map fun (k : Nat) => .int (lo + k)) : WalkD K c (Itr lo m) ds F0 := fun Fx Hx σx ρx S e => by
  subst hd
  refine ⟨fun i hi => (show m ≤ i by simpa using hi), fun i x hx => ?_⟩
  rw [List.getElem?_map] at hx
  by_cases hi : i < m
  · rw [List.getElem?_range hi] at hx
    cases hx
    refine ⟨hi, fun y H2 hy => ?_⟩
    obtain ⟨rfl, rfl⟩ := hy
    exact ⟨Fx, S, .refl, .int _⟩
  · rw [List.getElem?_eq_none (by simpa using hi)] at hx
    cases hx
/-- a new pair at each turn -/
theorem pair_step {K : PySem.W.Frag} {Fx Hx : Hp} {σx : St} {ρx : Env} (S : SR K c Fx Hx σx ρx) {T : Addr} {x y : V} {dx dy : D} (hT : Hx T = none) (h1 : Den K Fx x dx) (h2 : Den K Fx y dy) :
    ∃ F2, SR K c F2 (upd Hx T (.tup [x, y])) σx ρx ∧ Ext σx ρx Fx Hx ρx F2 (upd Hx T (.tup [x, y])) ∧ Den K F2 (.ref T) (.tuple [dx, dy]) := by
  have hF := S.freshF hT
  have S1 := S.laid (o := .tup [x, y]) hT (S.hl.updT (p := T) (by show 2 ≤ sizeLine; decide))
  exact ⟨_, S1.take upd_same hF (S.fresh0 hT) (fun z => S.freshO hT z), (Ext.laid (o := .tup [x, y]) hT).took hF hT, .tup (.inl (.inl upd_same)) (.cons (h1.mono (Sm.upd hF)) (.cons (h2.mono (Sm.upd hF)) .nil))⟩
end
end PX
/-! PX, part j0: enumerate over a tuple. -/
namespace PX
open PySem PySem.Spec PyProof.Rows L2
open AutoSeq1 (wpAny_loadPart')

/-- enumerate(v), as `iter v` is a new object -/
theorem meets_enum1 {v : Value} {o : Obj} {C : Heap → Prop} (B : Begins v o C) : Meets (Builtin.«enumerate.__new__» ⟨[.type "enumerate", v], []⟩)
    (fun _ R s => C s.heap ∧ R (.ok (.ret (.ref (s.heap.push o).objs.size)))
      { s with heap := (s.heap.push o).push { cls := .type "enumerate", data := .fields #[.none, .bool false, .ref s.heap.objs.size, rawInt 0, .none, .none] } }) :=
  .of_wp fun prog w A R s h => by
    obtain ⟨hp, g, d, tk, os⟩ := s
    obtain ⟨c1, h⟩ := h
    have hsub := sub_enumerate
    have it1 : ∀ {A' : Around} {E Q : Value → Shared → Prop}, Q (.ref hp.objs.size) ⟨hp.push o, g, d, tk, os⟩ → wpAny (model prog w) A' (pyIter v) Q E ⟨hp, g, d, tk, os⟩ := fun q => B.iter prog w _ _ ⟨hp, g, d, tk, os⟩ _ c1 q
    wp_walk using it1
    refine wpAny_stack_any fun st => wpAny_pure ?_
    split
    · rename_i c _ _ _ _ _
      by_cases e : (c == Value.type "enumerate") = true
      all_goals (simp only [e]; wp_walk using it1; exact ⟨_, rfl, h⟩)
    · wp_walk using it1
      exact ⟨_, rfl, h⟩
theorem call_enum1 {prog : Program} {w : World} {A : Around} {E : Value → Shared → Prop} {s : Shared} {v : Value} {o : Obj} {C : Heap → Prop} {Q : Value → Shared → Prop} (B : Begins v o C) (hC : C s.heap)
    (h : ∀ h', IsEnum h' (s.heap.objs.size + 1) s.heap.objs.size 0 .none → h'.get? s.heap.objs.size = some o → (∀ b ob, s.heap.get? b = some ob → h'.get? b = some ob) → Q (.ref (s.heap.objs.size + 1)) { s with heap := h' }) :
    wpAny (model prog w) A (call (.type "enumerate") [v]) Q E s := by
  refine callType_new F.called_enumerate (by decide) (F.typeCall_enumerate_1 _) (F.newCall_enumerate_1 _) (fun obj => F.args_object_init_2 obj _) F.entry_enumerate_new (meets_enum1 B) ⟨hC, ?_⟩
  have z : (s.heap.push o).objs.size = s.heap.objs.size + 1 := Heap.size_push ..
  show _ ∧ _
  rw [z]
  have en : IsEnum ((s.heap.push o).push { cls := .type "enumerate", data := .fields #[.none, .bool false, .ref s.heap.objs.size, rawInt 0, .none, .none] }) (s.heap.objs.size + 1) s.heap.objs.size 0 .none := by
    have q := Heap.get?_push_size (s.heap.push o) (o := { cls := .type "enumerate", data := .fields #[.none, .bool false, .ref s.heap.objs.size, rawInt 0, .none, .none] }) rfl
    rw [z] at q
    exact q
  exact ⟨⟨_, en, rfl⟩, h _ en (Heap.get?_push_of_some _ (Heap.get?_push_size _ B.free)) fun b ob x => Heap.get?_push_of_some _ (Heap.get?_push_of_some _ x)⟩

/-- the tuple at a, each item in a new pair -/
def IteT (K : PySem.W.Frag) (a : Addr) : It :=
  ⟨fun i H => ∃ (xs : List V) (x : V), SqT K H a xs ∧ xs[i]? = some x,
   fun i H v H' => ∃ T x, v = .ref T ∧ H T = none ∧ H' = upd H T (.tup [.int (i : Nat), x]) ∧ ∀ xs, SqT K H a xs → xs[i]? = some x,
   fun i H => ∃ xs : List V, SqT K H a xs ∧ xs.length ≤ i⟩
theorem turn_enumT {P : Program} {w : World} {K : PySem.W.Frag} {elts : List Expr} {kk : Nat} {tpos : Pos} (a e it : Addr) (hait : a ≠ it) (hae : a ≠ e) :
    Turn P w K (.Tuple elts kk tpos) (IteT K a) [e, it] e (fun i h => (∃ old, IsEnum h e it ((i : Nat) : Int) old) ∧ h.IsTupleIter it a i ∧ e ≠ it) where
  mem := by simp
  obj := fun i h st b hb => by
    obtain ⟨⟨old, he⟩, ⟨o, ho, hc, hd⟩, _⟩ := st
    rcases List.mem_cons.mp hb with rfl | hb
    · exact ⟨_, he, fun v q => nomatch q⟩
    · rw [List.mem_singleton.mp hb]
      exact ⟨o, ho, fun v q => by rw [hd] at q; cases q⟩
  keep := fun i h h' st k => by
    obtain ⟨⟨old, he⟩, hi, hne⟩ := st
    exact ⟨⟨old, k e (by simp) _ he⟩, hi.at fun o q => k it (by simp) o q, hne⟩
  item := by
    intro X hP hw hK hc i pins s σ H E I hf st hg
    subst hP hw hK
    obtain ⟨⟨old, he⟩, hit, hne⟩ := st
    obtain ⟨xs, x, hq, hx⟩ := hg
    obtain ⟨its, rv, p, hz⟩ := I.tuple hq
    obtain ⟨u, hu, ru⟩ := rv.get hx
    have hel : e < s.heap.objs.size := Heap.lt_size he
    have hil : it < s.heap.objs.size := by obtain ⟨_, q, _⟩ := hit; exact Heap.lt_size q
    have hlt : i < its.toArray.size := by
      have := (List.getElem?_eq_some_iff.mp hu).1
      simpa using this
    refine wpAny_pyNext_enum_itemC (Draws.tuple (A := X.A.in1) (show X.A.in1.handled = none from I.ok.hd hc) it a hait its.toArray) he ⟨hit, p⟩ hlt hne (by
      intro hm
      rcases List.mem_cons.mp hm with q | hm
      · exact hne q
      · exact hae (List.mem_singleton.mp hm).symm) fun y h' tk hy ho hst hT hsz hk => ?_
    have ey : y = u := by
      have : (its.toArray[i]?) = some u := by simpa using hu
      rw [this] at hy
      exact (Option.some.inj hy).symm
    subst ey
    refine ⟨_, rfl, wpAny_letOwnedTupleGo_enum (s := { s with heap := h', toks := tk + 1 }) ho fun h'' he' sb => ?_⟩
    have hT2 : h''.get? s.heap.objs.size = some { cls := .type "tuple", data := .seq #[.int i tk, y] } := (sb.2 _ (Nat.ne_of_gt hel)).trans hT
    have new : ObjOk X.prog X.w (upd H s.heap.objs.size (.tup [.int (i : Nat), x])) h'' s.heap.objs.size (.tup [.int (i : Nat), x]) :=
      ⟨by show 2 ≤ sizeLine; decide, [.int i tk, y], .cons ⟨_, rfl⟩ (.cons ru .nil), ⟨_, hT2, rfl, _, rfl⟩⟩
    have I1 : Inv X pins σ (upd H s.heap.objs.size (.tup [.int (i : Nat), x])) { s with heap := h'', toks := tk + 1 } :=
      I.turnedNew (ch := [e, it]) (fun b o hb q => (sb.2 b (fun z => hb (by simp [z]))).trans (hk b o (fun z => hb (by simp [z])) (fun z => hb (by simp [z])) q)) hf (Nat.le_refl _) new
    refine ⟨.ref s.heap.objs.size, _, I1, rfl, ⟨_, x, rfl, I.hok.fresh (Nat.le_refl _), rfl, fun ys hy => by rw [I.tuple_inj hy hq]; exact hx⟩, ⟨⟨y, ?_⟩, hst.1.at fun o q => (sb.2 it (Ne.symm hne)).trans q, hne⟩, fun b hb => ?_⟩
    · have e1 : ((i + 1 : Nat) : Int) = (i : Int) + 1 := by omega
      rw [e1]
      exact he'
    · have hb' : b < s.heap.objs.size := by
        rcases List.mem_cons.mp hb with rfl | hb
        · exact hel
        · rw [List.mem_singleton.mp hb]; exact hil
      rw [upd_ne (Nat.ne_of_lt hb')]
      exact (hf b hb).1
  done := by
    intro X hP hw hK hc i pins s σ H E I hf st hg
    subst hP hw hK
    obtain ⟨⟨old, he⟩, hit, hne⟩ := st
    obtain ⟨xs, hq, hx⟩ := hg
    obtain ⟨its, rv, p, hz⟩ := I.tuple hq
    obtain ⟨f0, f1, f2, f3, f4, f5⟩ := hf it (by simp)
    have hl := rv.length
    have hge : its.toArray.size ≤ i := by simp; omega
    have D : Draws X.prog X.w X.A.in1 it [it, a] 0 (fun _ _ => True) (fun _ h => h.IsTupleIter it a i ∧ h.IsTuple a its.toArray) :=
      ⟨fun _ _ st => let ⟨o, ho, _⟩ := st.1; ⟨o, ho⟩, fun _ _ _ st hk => ⟨st.1.at fun o e => hk it (by simp) o e, st.2.at fun o e => hk a (by simp) o e⟩, fun j s Q E hj st hQ => absurd hj (Nat.not_lt_zero _),
        fun s Q E st hE => wpAny_nextOf_tuple_end (show X.A.in1.handled = none from I.ok.hd hc) st.1 st.2 (Array.getElem?_eq_none hge) hE⟩
    exact wpAny_pyNext_enum_endD D he ⟨hit, p⟩ fun h' eb => ⟨rfl, I.turned (t' := s.toks) (fun b o hb q => eb b o hb q) f0 f1 f3 f4 f5⟩
  self := fun A i s Q E st h => let ⟨⟨_, he⟩, _⟩ := st; wpAny_pyIter_enum he h
theorem pi_enumT {X : Cx} {e : Expr} {ta : TA} {p pos tpos : Pos} {elts : List Expr} {kk : Nat} (hg : Gl X "enumerate") (hm : X.mg "enumerate" = none) (ha : PA X [e] ta) (hs : starEach [e] X.env = [(false, eval e X.env)]) :
    PI X (.Tuple elts kk tpos) (.Call (.Name "enumerate" p) [e] [] pos) (fun σ H R => ta σ H fun vs H1 => ∃ a xs, vs = [.ref a] ∧ SqT X.K H1 a xs ∧ R (IteT X.K a) H1) := by
  refine ⟨fun pins s σ H R I h => ?_⟩
  refine Call_ (ld_blt I hg hm boot_enumerate (PyProof.Rows.callWith_type1 (thn (ha.run pos pins s σ H _ I h) fun us s1 ⟨vs, H1, I1, r1, q1⟩ => ?_) hs rfl))
  obtain ⟨a, xs, rfl, hq, q⟩ := q1
  cases r1 with
  | cons r rr =>
    cases rr
    cases r
    obtain ⟨its, rv, p', hz⟩ := I1.tuple hq
    have hal : a < s1.heap.objs.size := by obtain ⟨_, q, _⟩ := p'; exact Heap.lt_size q
    refine call_enum1 (begins_tuple a its.toArray) p' fun h' he hit hk => wpAny_pyIter_enum he ?_
    have I2 : Inv X pins σ H1 { s1 with heap := h' } := I1.kept (t' := s1.toks) hk
    refine ⟨s1.heap.objs.size + 1, [s1.heap.objs.size + 1, s1.heap.objs.size], _, _, H1, rfl, I2, turn_enumT a (s1.heap.objs.size + 1) s1.heap.objs.size (Nat.ne_of_lt hal) (Nat.ne_of_lt (Nat.lt_succ_of_lt hal)), ⟨⟨.none, he⟩, ⟨_, hit, rfl, rfl⟩, Nat.succ_ne_self _⟩, fun b hb => ?_, q⟩
    have hle : s1.heap.objs.size ≤ b := by
      rcases List.mem_cons.mp hb with rfl | hb
      · exact Nat.le_add_right _ _
      · rw [List.mem_singleton.mp hb]; exact Nat.le_refl _
    exact I1.fpOk hle (I1.hok.fresh hle)
end PX
/-! PX, part j: sources, comprehensions. -/
namespace PX
open PySem PySem.Spec PyProof.Rows L2
section
variable {X : Cx} {c : FC} {pos p : Pos} {P : Prog} {n : Nat} {kws : String → List (Nat × List String × List Nat)} {N : List Str} {sc : Scope} {call : CallT} {lo : String → Option (List Nat)} {e a b tg : Expr} {ie ia ib : E}
theorem seqOf_some {d : D} {xs : List D} (h : seqOf d = some xs) : d = .list xs ∨ d = .tuple xs := by
  unfold seqOf at h
  split at h
  · cases h; exact .inl rfl
  · cases h; exact .inr rfl
  · cases h
theorem s_seq (he : PE X e (RE X.K c W0 (evE call lo ie))) : PI X tg e (RI X.K c (evSrc call lo (.seq ie))) :=
  pi_imp (pi_or (pi_list (pe_opd he)) (pi_tup (pe_opd he))) fun σ H R ⟨F, ρ, S, g⟩ => by
    have g : G X.K c W0 σ ρ F H ((opd (evE call lo ie ρ)).bind fun r => (Res.need (alias1 r.2 r.1)).bind fun q => (Res.need (seqOf q.1)).bind fun xs => .ok (xs, q.2)) (fun ds ρ' F' H' => ∀ J, WalkD X.K c J ds F' → ds.length ≤ sizeLine → R J H') := g
    have g1 := g.bind
    cases hr : opd (evE call lo ie ρ) with
    | bad => rw [hr] at g1; exact g1.elim
    | ex _ _ _ => exact .inl ⟨F, ρ, S, by rw [hr] at g1 ⊢; exact g1⟩
    | ok q =>
      obtain ⟨z, ρ1⟩ := q
      have kind : ∃ x ρ2 xs, alias1 ρ1 z = some (x, ρ2) ∧ seqOf x = some xs := by
        rw [hr] at g
        cases h1 : alias1 ρ1 z with
        | none =>
          have g : G X.K c W0 σ ρ F H ((Res.need (alias1 ρ1 z)).bind _) _ := g
          rw [h1] at g
          exact g.elim
        | some q =>
          have g : G X.K c W0 σ ρ F H ((Res.need (alias1 ρ1 z)).bind fun q => (Res.need (seqOf q.1)).bind fun xs => .ok (xs, q.2)) _ := g
          rw [h1] at g
          have g : G X.K c W0 σ ρ F H ((Res.need (seqOf q.1)).bind fun xs => .ok (xs, q.2)) _ := g
          cases h2 : seqOf q.1 with
          | none => rw [h2] at g; exact g.elim
          | some xs => exact ⟨q.1, q.2, xs, rfl, h2⟩
      obtain ⟨x, ρ2, xs, h1, h2⟩ := kind
      have ro : ∀ {R' : V → Hp → Prop}, (∀ F2 H2 v, SR X.K c F2 H2 σ ρ2 → Ext σ ρ F H ρ2 F2 H2 → Den X.K F2 v x → R' v H2) → RO X.K c W0 (evE call lo ie) σ H R' := fun {R'} k => by
        refine ⟨F, ρ, S, ?_⟩
        rw [hr]
        intro F1 H1 S1 X1 v o
        obtain ⟨F2, S2, X2, dv⟩ := S1.alias1 o h1
        exact k F2 H1 v S2 (X1.trans X2) dv
      have fin : ∀ F2 H2 J, SR X.K c F2 H2 σ ρ2 → Ext σ ρ F H ρ2 F2 H2 → WalkD X.K c J xs F2 → xs.length ≤ sizeLine → R J H2 := fun F2 H2 J S2 X2 w hl => by
        rw [hr] at g
        have g : G X.K c W0 σ ρ F H ((Res.need (alias1 ρ1 z)).bind fun q => (Res.need (seqOf q.1)).bind fun xs => .ok (xs, q.2)) _ := g
        rw [h1] at g
        have g : G X.K c W0 σ ρ F H ((Res.need (seqOf x)).bind fun xs => .ok (xs, ρ2)) _ := g
        rw [h2] at g
        exact g F2 H2 S2 X2 J w hl
      rcases seqOf_some h2 with rfl | rfl
      · refine .inl (ro fun F2 H2 v S2 X2 dv => ?_)
        obtain ⟨ad, vs, rfl, d1, d2⟩ := dv.list
        have hs : SqL X.K H2 ad vs := (S2.exF.sp d1).sl
        exact ⟨ad, rfl, ⟨vs, hs⟩, fin F2 H2 _ S2 X2 (walk_l d1 d2) (by rw [← d2.length]; exact S2.hl.1 ad vs hs)⟩
      · refine .inr (ro fun F2 H2 v S2 X2 dv => ?_)
        obtain ⟨ad, vs, rfl, d1, d2⟩ := dv.tuple
        have hs : SqT X.K H2 ad vs := S2.exF.st d1
        exact ⟨ad, rfl, ⟨vs, hs⟩, fin F2 H2 _ S2 X2 (walk_t d1 d2) (by rw [← d2.length]; exact S2.hl.2 ad vs hs)⟩
theorem one_int {f : Env → Res (Val × Env)} (he : PE X e (RE X.K c W0 f)) (hs : isStar e = false) : PA X [e] (tCons (RO X.K c W0 f) tNil) := pa_cons (pe_opd he) pa_nil (star_cons (notStar hs))
theorem s_rng1 (hx : XC P n kws N sc X) (hg : Gl X "range") (hst : isStar a = false) (ha : PE X a (RE X.K c W0 (evE call lo ia))) : PI X tg (.Call (.Name "range" p) [a] [] pos) (RI X.K c (evSrc call lo (.rng1 ia))) :=
  pi_imp (pi_range1 hg (hx.prog.free "range" (by decide +kernel)) (one_int ha hst) (star_cons (notStar hst))) fun σ H R ⟨F, ρ, S, g⟩ => by
    have g : G X.K c W0 σ ρ F H ((evE call lo ia ρ).bind fun r => (Res.need (asInt r.1)).bind fun j => if In62 j then .ok ((List.range j.toNat).map fun (k : Nat) => PyData.int k, r.2) else .bad) (fun ds ρ' F' H' => ∀ J, WalkD X.K c J ds F' → ds.length ≤ sizeLine → R J H') := g
    have g1 := g.bind
    show RO X.K c W0 (evE call lo ia) σ H fun x H1 => ∃ j : Int, [x] = [.int j] ∧ _
    refine ⟨F, ρ, S, ?_⟩
    unfold opd
    revert g1
    cases evE call lo ia ρ with
    | bad => exact fun q => q
    | ex _ _ _ => exact fun q => q
    | ok q =>
      intro g1 F1 H1 S1 X1 v o
      obtain ⟨z, ρ1⟩ := q
      have key : ∀ {i : Int}, z = .d (.int i) → ∃ j : Int, [v] = [V.int j] ∧ -(2 ^ 62) ≤ j ∧ j < 2 ^ 62 ∧ R (Itr 0 j.toNat) H1 := fun {i} ez => by
        subst ez
        obtain ⟨j, e, g2⟩ := (g1 F1 H1 S1 X1).need
        cases e
        obtain ⟨hb, g2⟩ := g2.ite
        have hb : -(2 ^ 62) ≤ i ∧ i ≤ 16777216 := hb
        refine ⟨i, by rw [Den.toInt o], hb.1, by omega, g2.here S1 .refl _ (walk_r (by simp)) ?_⟩
        rw [List.length_map, List.length_range, sizeLine_eq]; omega
      cases z with
      | d x =>
        obtain ⟨i, e, _⟩ := (g1 F1 H1 S1 X1).need
        exact key (asInt_some e)
      | own j =>
        obtain ⟨i, e, _⟩ := (g1 F1 H1 S1 X1).need
        cases e
      | fr xs =>
        obtain ⟨i, e, _⟩ := (g1 F1 H1 S1 X1).need
        cases e
theorem s_rng2 (hx : XC P n kws N sc X) (hg : Gl X "range") (hst : isStar a = false) (hst2 : isStar b = false) (ha : PE X a (RE X.K c W0 (evE call lo ia))) (hb : PE X b (RE X.K c W0 (evE call lo ib))) : PI X tg (.Call (.Name "range" p) [a, b] [] pos) (RI X.K c (evSrc call lo (.rng2 ia ib))) :=
  pi_imp (pi_range2 hg (hx.prog.free "range" (by decide +kernel)) (pa_cons (pe_opd ha) (one_int hb hst2) (star_cons (notStar hst))) (by rw [star_cons (notStar hst), star_cons (notStar hst2)]; rfl) (star_cons (notStar hst2))) fun σ H R ⟨F, ρ, S, g⟩ => by
    have g : G X.K c W0 σ ρ F H ((evE call lo ia ρ).bind fun r => (evE call lo ib r.2).bind fun q => (Res.need (asInt r.1)).bind fun i => (Res.need (asInt q.1)).bind fun j => if rgFits i j then .ok ((List.range (j - i).toNat).map fun (k : Nat) => PyData.int (i + k), q.2) else .bad) (fun ds ρ' F' H' => ∀ J, WalkD X.K c J ds F' → ds.length ≤ sizeLine → R J H') := g
    have g1 := g.bind
    show RO X.K c W0 (evE call lo ia) σ H fun x H1 => RO X.K c W0 (evE call lo ib) σ H1 fun y H2 => ∃ i j : Int, [x, y] = [.int i, .int j] ∧ _
    refine ⟨F, ρ, S, ?_⟩
    unfold opd
    revert g1
    cases evE call lo ia ρ with
    | bad => exact fun q => q
    | ex _ _ _ => exact fun q => q
    | ok q =>
      obtain ⟨z, ρ1⟩ := q
      intro g1 F1 H1 S1 X1 v o
      have hs : (PX.settle (z, ρ1)).2 = ρ1 := by cases z <;> rfl
      have S1' : SR X.K c F1 H1 σ ρ1 := by rw [← hs]; exact S1
      have X1' : Ext σ ρ F H ρ1 F1 H1 := by rw [← hs]; exact X1
      have g1 := g1 F1 H1 S1' X1'
      have g2 := G.bind (r := evE call lo ib ρ1) g1
      refine ⟨F1, ρ1, S1', ?_⟩
      unfold opd
      revert g2
      cases evE call lo ib ρ1 with
      | bad => exact fun q => q
      | ex _ _ _ => exact fun q => q
      | ok q =>
        obtain ⟨z2, ρ2⟩ := q
        intro g2 F2 H2 S2 X2 w o2
        have hs2 : (PX.settle (z2, ρ2)).2 = ρ2 := by cases z2 <;> rfl
        have S2' : SR X.K c F2 H2 σ ρ2 := by rw [← hs2]; exact S2
        have X2' : Ext σ ρ1 F1 H1 ρ2 F2 H2 := by rw [← hs2]; exact X2
        obtain ⟨i, e1, g3⟩ := (g2 F2 H2 S2' X2').need
        obtain ⟨j, e2, g3⟩ := g3.need
        have e1 : z = .d (.int i) := asInt_some e1
        have e2 : z2 = .d (.int j) := asInt_some e2
        subst e1 e2
        obtain ⟨hb, g3⟩ := g3.ite
        obtain ⟨b1, b2, b3, b4, b5⟩ := hb
        refine ⟨i, j, by rw [Den.toInt o, Den.toInt o2], ⟨by omega, by omega, by omega, by omega⟩, g3.here S2' .refl _ (walk_r rfl) ?_⟩
        rw [List.length_map, List.length_range, sizeLine_eq]; omega
theorem aliasL_two {ρ ρ' : Env} {z z' : Val} {xs : List D} (h : aliasL ρ [z, z'] = some (xs, ρ')) : ∃ x y, xs = [x, y] := by
  unfold aliasL at h
  split at h
  · cases h
  · split at h
    · cases h
    · rename_i ds ρ2 hq
      unfold aliasL at hq
      split at hq
      · cases hq
      · split at hq
        · cases hq
        · rename_i es ρ3 hq3
          cases hq3
          cases hq
          cases h
          exact ⟨_, _, rfl⟩
theorem zipD_some {x y : D} {ds : List D} (h : zipD [x, y] = some ds) : ∃ xs ys, ds = ((xs.zip ys).map fun p => .tuple [p.1, p.2]) ∧ ((x = .tuple xs ∧ y = .tuple ys) ∨ (x = .list xs ∧ y = .list ys)) := by
  unfold zipD at h
  split at h
  · rename_i xs ys e
    cases e
    cases h
    exact ⟨xs, ys, rfl, .inl ⟨rfl, rfl⟩⟩
  · rename_i xs ys e
    cases e
    cases h
    exact ⟨xs, ys, rfl, .inr ⟨rfl, rfl⟩⟩
  · cases h
theorem zip_get {α β : Type} {xs : List α} {ys : List β} {i : Nat} {q : α × β} (h : (xs.zip ys)[i]? = some q) : xs[i]? = some q.1 ∧ ys[i]? = some q.2 := by
  rw [List.getElem?_zip_eq_some] at h
  exact h
theorem s_zip (hx : XC P n kws N sc X) (hg : Gl X "zip") (hst : isStar a = false) (hst2 : isStar b = false) {elts : List Expr} {kk : Nat} {tpos : Pos} (ha : PE X a (RE X.K c W0 (evE call lo ia))) (hb : PE X b (RE X.K c W0 (evE call lo ib))) :
    PI X (.Tuple elts kk tpos) (.Call (.Name "zip" p) [a, b] [] pos) (RI X.K c (evSrc call lo (.zip ia ib))) :=
  pi_imp (RZ.pi_zipA hg (hx.prog.free "zip" (by decide +kernel)) (pa_cons (pe_opd ha) (one_int hb hst2) (star_cons (notStar hst))) (star_cons (notStar hst)) (by rw [star_cons (notStar hst2)]; rfl)) fun σ H R ⟨F, ρ, S, g⟩ => by
    have g : G X.K c W0 σ ρ F H ((opd (evE call lo ia ρ)).bind fun r => (opd (evE call lo ib r.2)).bind fun q => (Res.need (aliasL q.2 [r.1, q.1])).bind fun z => (Res.need (zipD z.1)).bind fun xs => .ok (xs, z.2)) (fun ds ρ' F' H' => ∀ J, WalkD X.K c J ds F' → ds.length ≤ sizeLine → R J H') := g
    show RO X.K c W0 (evE call lo ia) σ H fun x H1 => RO X.K c W0 (evE call lo ib) σ H1 fun y H2 => ∃ a b xs ys, [x, y] = [.ref a, .ref b] ∧ _
    refine ⟨F, ρ, S, g.bind.imp fun z ρ1 F1 H1 S1 X1 g1 v o1 => ?_⟩
    refine ⟨F1, ρ1, S1, g1.bind.imp fun z2 ρ2 F2 H2 S2 X2 g2 w o2 => ?_⟩
    obtain ⟨q, e1, g2⟩ := g2.need
    obtain ⟨ds, ρ3⟩ := q
    obtain ⟨dx, dy, rfl⟩ := aliasL_two e1
    obtain ⟨zs, e2, g2⟩ := g2.need
    have ol : ORL X.K F2 σ [v, w] [z, z2] := .cons (o1.mono X2.exF) (.cons o2 .nil)
    obtain ⟨F3, S3, X3, d3⟩ := SR.aliasL ol S2 ol e1
    obtain ⟨xs, ys, rfl, hk⟩ := zipD_some e2
    cases d3 with
    | cons d4 d5 =>
    cases d5 with
    | cons d5 d6 =>
    rcases hk with ⟨rfl, rfl⟩ | ⟨rfl, rfl⟩
    · obtain ⟨ad, vs, rfl, h1, h2⟩ := d4.tuple
      obtain ⟨bd, ws, rfl, h3, h4⟩ := d5.tuple
      have s1 := S3.exF.st h1
      have s2 := S3.exF.st h3
      refine ⟨ad, bd, vs, ws, rfl, .inr ⟨s1, s2, g2.here S3 X3 _ (fun Fx Hx σx ρx Sx ex => ⟨fun i hi => ?_, fun i d hd => ?_⟩) ?_⟩⟩
      · refine ⟨vs, ws, (ex.trans Sx.exF).st h1, (ex.trans Sx.exF).st h3, ?_⟩
        rw [h2.length, h4.length]
        rw [List.length_map, List.length_zip] at hi
        omega
      · rw [List.getElem?_map] at hd
        cases hq : (xs.zip ys)[i]? with
        | none => rw [hq] at hd; cases hd
        | some q =>
          rw [hq] at hd
          cases hd
          obtain ⟨q1, q2⟩ := zip_get hq
          obtain ⟨v1, a1, a2⟩ := h2.get q1
          obtain ⟨v2, b1, b2⟩ := h4.get q2
          refine ⟨⟨vs, ws, v1, v2, (ex.trans Sx.exF).st h1, (ex.trans Sx.exF).st h3, a1, b1⟩, fun x H' hy => ?_⟩
          obtain ⟨T, u1, u2, rfl, hT, rfl, f1, f2⟩ := hy
          have w1 := f1 vs ((ex.trans Sx.exF).st h1)
          have w2 := f2 ws ((ex.trans Sx.exF).st h3)
          rw [a1] at w1
          rw [b1] at w2
          cases w1
          cases w2
          exact pair_step Sx hT (a2.mono ex) (b2.mono ex)
      · rw [List.length_map, List.length_zip]
        have := S3.hl.2 ad vs s1
        rw [h2.length] at this
        omega
    · obtain ⟨ad, vs, rfl, h1, h2⟩ := d4.list
      obtain ⟨bd, ws, rfl, h3, h4⟩ := d5.list
      have s1 : SqL X.K H2 ad vs := (S3.exF.sp h1).sl
      have s2 : SqL X.K H2 bd ws := (S3.exF.sp h3).sl
      refine ⟨ad, bd, vs, ws, rfl, .inl ⟨s1, s2, g2.here S3 X3 _ (fun Fx Hx σx ρx Sx ex => ⟨fun i hi => ?_, fun i d hd => ?_⟩) ?_⟩⟩
      · refine ⟨vs, ws, ((ex.trans Sx.exF).sp h1).sl, ((ex.trans Sx.exF).sp h3).sl, ?_⟩
        rw [h2.length, h4.length]
        rw [List.length_map, List.length_zip] at hi
        omega
      · rw [List.getElem?_map] at hd
        cases hq : (xs.zip ys)[i]? with
        | none => rw [hq] at hd; cases hd
        | some q =>
          rw [hq] at hd
          cases hd
          obtain ⟨q1, q2⟩ := zip_get hq
          obtain ⟨v1, a1, a2⟩ := h2.get q1
          obtain ⟨v2, b1, b2⟩ := h4.get q2
          have t1 : SqL X.K Hx ad vs := ((ex.trans Sx.exF).sp h1).sl
          have t2 : SqL X.K Hx bd ws := ((ex.trans Sx.exF).sp h3).sl
          refine ⟨⟨vs, ws, v1, v2, t1, t2, a1, b1⟩, fun x H' hy => ?_⟩
          obtain ⟨T, u1, u2, rfl, hT, rfl, f1, f2⟩ := hy
          have w1 := f1 vs t1
          have w2 := f2 ws t2
          rw [a1] at w1
          rw [b1] at w2
          cases w1
          cases w2
          exact pair_step Sx hT (a2.mono ex) (b2.mono ex)
      · rw [List.length_map, List.length_zip]
        have := S3.hl.1 ad vs s1
        rw [h2.length] at this
        omega
theorem enumD_some {x : D} {ds : List D} (h : enumD x = some ds) : ∃ xs, (x = .list xs ∨ x = .tuple xs) ∧ ds = xs.zipIdx.map fun p => .tuple [.int p.2, p.1] := by
  unfold enumD at h
  split at h
  · cases h; exact ⟨_, .inl rfl, rfl⟩
  · cases h; exact ⟨_, .inr rfl, rfl⟩
  · cases h
theorem s_enum (hx : XC P n kws N sc X) (hg : Gl X "enumerate") (hst : isStar a = false) {elts : List Expr} {kk : Nat} {tpos : Pos} (ha : PE X a (RE X.K c W0 (evE call lo ia))) :
    PI X (.Tuple elts kk tpos) (.Call (.Name "enumerate" p) [a] [] pos) (RI X.K c (evSrc call lo (.enum ia))) :=
  pi_imp (pi_or (pi_enum hg (hx.prog.free "enumerate" (by decide +kernel)) (one_int ha hst) (star_cons (notStar hst))) (pi_enumT hg (hx.prog.free "enumerate" (by decide +kernel)) (one_int ha hst) (star_cons (notStar hst)))) fun σ H R ⟨F, ρ, S, g⟩ => by
    have g : G X.K c W0 σ ρ F H ((opd (evE call lo ia ρ)).bind fun r => (Res.need (alias1 r.2 r.1)).bind fun q => (Res.need (enumD q.1)).bind fun xs => .ok (xs, q.2)) (fun ds ρ' F' H' => ∀ J, WalkD X.K c J ds F' → ds.length ≤ sizeLine → R J H') := g
    have g1 := g.bind
    cases hr : opd (evE call lo ia ρ) with
    | bad => rw [hr] at g1; exact g1.elim
    | ex _ _ _ => exact .inl ⟨F, ρ, S, by rw [hr] at g1 ⊢; exact g1⟩
    | ok q =>
      obtain ⟨z, ρ1⟩ := q
      rw [hr] at g
      have g : G X.K c W0 σ ρ F H ((Res.need (alias1 ρ1 z)).bind fun q => (Res.need (enumD q.1)).bind fun xs => .ok (xs, q.2)) (fun ds ρ' F' H' => ∀ J, WalkD X.K c J ds F' → ds.length ≤ sizeLine → R J H') := g
      cases h1 : alias1 ρ1 z with
      | none => rw [h1] at g; exact g.elim
      | some q =>
      obtain ⟨x, ρ2⟩ := q
      rw [h1] at g
      have g : G X.K c W0 σ ρ F H ((Res.need (enumD x)).bind fun xs => .ok (xs, ρ2)) (fun ds ρ' F' H' => ∀ J, WalkD X.K c J ds F' → ds.length ≤ sizeLine → R J H') := g
      cases h2 : enumD x with
      | none => rw [h2] at g; exact g.elim
      | some ds =>
      rw [h2] at g
      have ro : ∀ {R' : V → Hp → Prop}, (∀ F2 H2 v, SR X.K c F2 H2 σ ρ2 → Ext σ ρ F H ρ2 F2 H2 → Den X.K F2 v x → R' v H2) → RO X.K c W0 (evE call lo ia) σ H R' := fun {R'} k => by
        refine ⟨F, ρ, S, ?_⟩
        rw [hr]
        intro F1 H1 S1 X1 v o
        obtain ⟨F2, S2, X2, dv⟩ := S1.alias1 o h1
        exact k F2 H1 v S2 (X1.trans X2) dv
      have fin : ∀ F2 H2 J, SR X.K c F2 H2 σ ρ2 → Ext σ ρ F H ρ2 F2 H2 → WalkD X.K c J ds F2 → ds.length ≤ sizeLine → R J H2 := fun F2 H2 J S2 X2 w hl => g F2 H2 S2 X2 J w hl
      obtain ⟨xs, hk, rfl⟩ := enumD_some h2
      rcases hk with rfl | rfl
      · refine .inl (ro fun F2 H2 v S2 X2 dv => ?_)
        obtain ⟨ad, vs, rfl, h1, h2⟩ := dv.list
        have s1 : SqL X.K H2 ad vs := (S2.exF.sp h1).sl
        refine ⟨ad, vs, rfl, s1, fin F2 H2 _ S2 X2 (fun Fx Hx σx ρx Sx ex => ?_) ?_⟩
        · have t1 : SqL X.K Hx ad vs := ((ex.trans Sx.exF).sp h1).sl
          refine ⟨fun i hi => ⟨vs, t1, by rw [h2.length]; simpa using hi⟩, fun i d hd => ?_⟩
          rw [List.getElem?_map, List.getElem?_zipIdx] at hd
          cases hq : xs[i]? with
          | none => rw [hq] at hd; cases hd
          | some q =>
            rw [hq] at hd
            cases hd
            obtain ⟨v1, a1, a2⟩ := h2.get hq
            refine ⟨⟨vs, v1, t1, a1⟩, fun x H' hy => ?_⟩
            obtain ⟨T, u1, rfl, hT, rfl, f1⟩ := hy
            have w1 := f1 vs t1
            rw [a1] at w1
            cases w1
            have := pair_step (dx := .int ((0 : Nat) + i : Nat)) (x := .int (i : Nat)) Sx hT (by rw [Nat.zero_add]; exact .int _) (a2.mono ex)
            exact this
        · rw [List.length_map, List.length_zipIdx]
          have := S2.hl.1 ad vs s1
          rw [h2.length] at this
          exact this
      · refine .inr (ro fun F2 H2 v S2 X2 dv => ?_)
        obtain ⟨ad, vs, rfl, h1, h2⟩ := dv.tuple
        have s1 : SqT X.K H2 ad vs := S2.exF.st h1
        refine ⟨ad, vs, rfl, s1, fin F2 H2 _ S2 X2 (fun Fx Hx σx ρx Sx ex => ?_) ?_⟩
        · have t1 : SqT X.K Hx ad vs := (ex.trans Sx.exF).st h1
          refine ⟨fun i hi => ⟨vs, t1, by rw [h2.length]; simpa using hi⟩, fun i d hd => ?_⟩
          rw [List.getElem?_map, List.getElem?_zipIdx] at hd
          cases hq : xs[i]? with
          | none => rw [hq] at hd; cases hd
          | some q =>
            rw [hq] at hd
            cases hd
            obtain ⟨v1, a1, a2⟩ := h2.get hq
            refine ⟨⟨vs, v1, t1, a1⟩, fun x H' hy => ?_⟩
            obtain ⟨T, u1, rfl, hT, rfl, f1⟩ := hy
            have w1 := f1 vs t1
            rw [a1] at w1
            cases w1
            have := pair_step (dx := .int ((0 : Nat) + i : Nat)) (x := .int (i : Nat)) Sx hT (by rw [Nat.zero_add]; exact .int _) (a2.mono ex)
            exact this
        · rw [List.length_map, List.length_zipIdx]
          have := S2.hl.2 ad vs s1
          rw [h2.length] at this
          exact this
end
end PX
/-! PX, part k: comprehensions. -/
namespace PX
open PySem PySem.Spec PyProof.Rows L2

theorem wipe_wipe {σ : St} {vs : List Nat} : wipe (wipe σ vs) vs = wipe σ vs := by
  refine List.ext_getElem? fun j => ?_
  rw [wipe_get (σ := wipe σ vs), wipe_length]
  by_cases q : j ∈ vs ∧ j < σ.length
  · rw [if_pos q, wipe_get, if_pos q]
  · rw [if_neg q]
theorem storeN_own {ρ ρ' : Env} {i : Nat} {d : D} (h : storeN ρ i d = some ρ') {j : Nat} (hj : isOwn (slot ρ' j) = true) : j ≠ i ∧ slot ρ j = slot ρ' j := by
  obtain ⟨hl, rfl⟩ := storeN_some h
  by_cases e : j = i
  · subst e
    rw [slot_set_eq hl] at hj
    cases hj
  · exact ⟨e, (slot_set_ne (Ne.symm e)).symm⟩
theorem storeAll_own : ∀ {is : List Nat} {ds : List D} {ρ ρ' : Env}, storeAll ρ is ds = some ρ' → ∀ {j : Nat}, isOwn (slot ρ' j) = true → j ∉ is ∧ slot ρ j = slot ρ' j
  | [], [], ρ, ρ', h, j, hj => by cases h; exact ⟨by simp, rfl⟩
  | i :: is, d :: ds, ρ, ρ', h, j, hj => by
    unfold storeAll at h
    cases h1 : storeN ρ i d with
    | none => rw [h1] at h; cases h
    | some ρ1 =>
      rw [h1] at h
      obtain ⟨a1, a2⟩ := storeAll_own h hj
      obtain ⟨b1, b2⟩ := storeN_own h1 (j := j) (by rw [a2]; exact hj)
      exact ⟨by simp [b1, a1], b2.trans a2⟩
  | [], _ :: _, _, _, h, _, _ => by cases h
  | _ :: _, [], _, _, h, _, _ => by cases h
theorem storeTg_own {tg : Tg} {d : D} {ρ ρ' : Env} (h : storeTg ρ tg d = some ρ') {j : Nat} (hj : isOwn (slot ρ' j) = true) : j ∉ tgIdx tg ∧ slot ρ j = slot ρ' j := by
  cases tg with
  | nm i =>
    obtain ⟨a, b⟩ := storeN_own (show storeN ρ i d = some ρ' from h) hj
    exact ⟨by simpa [tgIdx] using a, b⟩
  | tp is =>
    cases d with
    | tuple xs =>
      have h : (if is.length = xs.length then storeAll ρ is xs else none) = some ρ' := h
      split at h
      · exact storeAll_own h hj
      · cases h
    | _ => cases h
theorem wipe_out2 {σ σ' : St} {vs : List Nat} (h : wipe σ' vs = wipe σ vs) {j : Nat} (hj : j ∉ vs) : σ'[j]? = σ[j]? := by
  have := congrArg (fun l : St => l[j]?) h
  simp only [wipe_get] at this
  rwa [if_neg fun z => hj z.1, if_neg fun z => hj z.1] at this
theorem owned_store {tg : Tg} {d : D} {ρ ρ' : Env} {σ σ' : St} (h : storeTg ρ tg d = some ρ') (hw : wipe σ' (tgIdx tg) = wipe σ (tgIdx tg)) {a : Addr} (ha : owned σ' ρ' a) : owned σ ρ a := by
  obtain ⟨j, h1, h2⟩ := ha
  obtain ⟨a1, a2⟩ := storeTg_own h h1
  exact ⟨j, by rw [a2]; exact h1, by rw [← wipe_out2 hw a1]; exact h2⟩
theorem owned_wipe {ρ : Env} {σ : St} {vs : List Nat} {a : Addr} (h : owned (wipe σ vs) (wipeE ρ vs) a) : owned σ ρ a := by
  obtain ⟨j, h1, h2⟩ := h
  rw [wipeE_slot] at h1
  by_cases q : j ∈ vs
  · rw [if_pos q] at h1; cases h1
  · rw [if_neg q] at h1
    rw [wipe_get, if_neg fun z => q z.1] at h2
    exact ⟨j, h1, h2⟩
theorem Ext.mutNew {σ : St} {ρ ρ' : Env} {F H F' H' : Hp} (e : Ext σ ρ F H ρ' F' H') {p : Addr} {o : HO} (hp : H p = none) : Ext σ ρ F H ρ' F' (upd H' p o) := ⟨e.exF, e.grow, fun a u h n => by
  rw [upd_ne fun z => by rw [z, hp] at h; cases h]
  exact e.keepH a u h n, fun a h => by
  by_cases q : a = p
  · rw [q]; exact hp
  · rw [upd_ne q] at h; exact e.alive a h, e.own⟩
/-- a turn of a comprehension: within, other names -/
theorem Ext.turn {σ σ2 : St} {ρ ρ2 ρ' : Env} {F H F' H' : Hp} {tg : Tg} {d : D} {vs : List Nat} (hs : storeTg ρ tg d = some ρ2) (hw : wipe σ2 (tgIdx tg) = wipe σ (tgIdx tg)) (e : Ext σ2 ρ2 F H ρ' F' H') (hw2 : wipe σ2 vs = σ) : Ext σ ρ F H (wipeE ρ' vs) F' H' :=
  have ow : ∀ a, owned σ2 ρ2 a → owned σ ρ a := fun a h => owned_store hs hw h
  ⟨e.exF, fun a h => by
    rcases e.grow a h with h | h | h
    · exact .inl h
    · exact .inr (.inl h)
    · exact .inr (.inr (ow a h)), fun a o h n => e.keepH a o h fun z => n (ow a z), e.alive, fun a h => ow a (e.own a (owned_wipe (vs := vs) (by rw [hw2]; exact h)))⟩
theorem restore_len {ρ ρ' : Env} : ∀ {vs : List Nat}, (restore ρ ρ' vs).length = ρ'.length
  | [] => rfl
  | i :: is => by unfold restore; rw [List.length_set, restore_len]
theorem restore_slot {ρ ρ' : Env} (hl : ρ.length = ρ'.length) {j : Nat} : ∀ {vs : List Nat}, slot (restore ρ ρ' vs) j = if j ∈ vs then slot ρ j else slot ρ' j
  | [] => by simp [restore]
  | i :: is => by
    unfold restore
    rw [slot_set, restore_len, restore_slot hl]
    by_cases e : i = j
    · subst e
      by_cases h2 : i < ρ'.length
      · simp [h2]
      · have h3 : slot ρ i = .un := by unfold slot; rw [List.getElem?_eq_none (by omega)]; rfl
        have h4 : slot ρ' i = .un := by unfold slot; rw [List.getElem?_eq_none (by omega)]; rfl
        simp [h2, h3, h4]
    · have e' : ¬ j = i := fun z => e z.symm
      simp [e, e']
section
variable {K : PySem.W.Frag} {c : FC} {F F' H H' : Hp} {σ : St} {ρ ρ' : Env} {vs : List Nat}
/-- behind a comprehension -/
theorem SR.restored (S : SR K c F H σ ρ) (S' : SR K c F' H' (wipe σ vs) ρ') (e : Ext (wipe σ vs) (wipeE ρ vs) F H ρ' F' H') : SR K c F' H' σ (restore ρ ρ' vs) ∧ Ext σ ρ F H (restore ρ ρ' vs) F' H' := by
  have hl : ρ.length = ρ'.length := by rw [← S.len, ← S'.len, wipe_length]
  have sl : ∀ j, slot (restore ρ ρ' vs) j = if j ∈ vs then slot ρ j else slot ρ' j := fun j => restore_slot hl
  have gw : ∀ j, j ∉ vs → (wipe σ vs)[j]? = σ[j]? := fun j h => by rw [wipe_get, if_neg fun z => h z.1]
  -- a slot of vs is held by nobody within
  have out : ∀ j a, j ∈ vs → isOwn (slot ρ j) = true → σ[j]? = some (some (.ref a)) → ¬ owned (wipe σ vs) (wipeE ρ vs) a := fun j a hj ho ha ⟨k, h1, h2⟩ => by
    rw [wipeE_slot] at h1
    by_cases q : k ∈ vs
    · rw [if_pos q] at h1; cases h1
    · rw [if_neg q] at h1
      rw [gw k q] at h2
      have := S.sep j k a ho h1 ha h2
      subst this
      exact q hj
  have keepL : ∀ j a ws, j ∈ vs → isOwn (slot ρ j) = true → σ[j]? = some (some (.ref a)) → H a = some (.lst ws) → F a = none → H' a = some (.lst ws) ∧ F' a = none := fun j a ws hj ho ha hH hF => by
    have no := out j a hj ho ha
    refine ⟨e.keepH a _ hH no, ?_⟩
    cases q : F' a with
    | none => rfl
    | some o =>
      rcases e.grow a (by rw [q]; intro z; cases z) with z | z | z
      · exact absurd hF z
      · rw [hH] at z; cases z
      · exact absurd z no
  refine ⟨⟨by rw [restore_len, ← hl]; exact S.len, S'.exB, S'.dom, S'.exF, S'.keep, S'.iol, S'.hl, fun j d h => ?_, fun j xs h => ?_, fun j xs h => ?_, fun j k a h1 h2 e1 e2 => ?_⟩, ?_⟩
  · rw [sl] at h
    by_cases q : j ∈ vs
    · rw [if_pos q] at h
      obtain ⟨v, h1, h2⟩ := S.fz j d h
      exact ⟨v, h1, h2.mono e.exF⟩
    · rw [if_neg q] at h
      rw [← gw j q]
      exact S'.fz j d h
  · rw [sl] at h
    by_cases q : j ∈ vs
    · rw [if_pos q] at h
      obtain ⟨a, ws, a1, a2, a3, a4, a5⟩ := S.ow j xs h
      obtain ⟨b1, b2⟩ := keepL j a ws q (by rw [h]; rfl) a1 a2 a3
      exact ⟨a, ws, a1, b1, b2, a4, a5.mono e.exF⟩
    · rw [if_neg q] at h
      rw [← gw j q]
      exact S'.ow j xs h
  · rw [sl] at h
    by_cases q : j ∈ vs
    · rw [if_pos q] at h
      obtain ⟨a, ws, a1, a2, a3, a4, a5⟩ := S.io j xs h
      obtain ⟨b1, b2⟩ := keepL j a ws q (by rw [h]; rfl) a1 a2 a3
      exact ⟨a, ws, a1, b1, b2, a4, a5.mono e.exF⟩
    · rw [if_neg q] at h
      rw [← gw j q]
      exact S'.io j xs h
  · rw [sl] at h1 h2
    have cross : ∀ j k, j ∈ vs → k ∉ vs → isOwn (slot ρ j) = true → isOwn (slot ρ' k) = true → σ[j]? = some (some (.ref a)) → σ[k]? = some (some (.ref a)) → False := fun j k hj hk o1 o2 f1 f2 =>
      out j a hj o1 f1 (e.own a ⟨k, o2, by rw [gw k hk]; exact f2⟩)
    by_cases qj : j ∈ vs
    · by_cases qk : k ∈ vs
      · rw [if_pos qj] at h1
        rw [if_pos qk] at h2
        exact S.sep j k a h1 h2 e1 e2
      · rw [if_pos qj] at h1
        rw [if_neg qk] at h2
        exact (cross j k qj qk h1 h2 e1 e2).elim
    · by_cases qk : k ∈ vs
      · rw [if_neg qj] at h1
        rw [if_pos qk] at h2
        exact (cross k j qk qj h2 h1 e2 e1).elim
      · rw [if_neg qj] at h1
        rw [if_neg qk] at h2
        exact S'.sep j k a h1 h2 (by rw [gw j qj]; exact e1) (by rw [gw k qk]; exact e2)
  · refine ⟨e.exF, fun a h => ?_, fun a o h n => e.keepH a o h fun z => n (owned_wipe z), e.alive, fun a ⟨j, h1, h2⟩ => ?_⟩
    · rcases e.grow a h with h | h | h
      · exact .inl h
      · exact .inr (.inl h)
      · exact .inr (.inr (owned_wipe h))
    · rw [sl] at h1
      by_cases q : j ∈ vs
      · rw [if_pos q] at h1
        exact ⟨j, h1, h2⟩
      · rw [if_neg q] at h1
        exact owned_wipe (e.own a ⟨j, h1, by rw [gw j q]; exact h2⟩)
end
section
variable {K : PySem.W.Frag} {c : FC} {σ : St} {vs : List Nat} {tg : Tg} {tt : TT} {tf : Env → Res (Bool × Env)} {ef : Env → Res (Val × Env)} {ds : List D}
/-- the reading of a comprehension -/
theorem lc_main {F H : Hp} {ρ : Env} {Q : VK} {sf : Env → Res (List D × Env)} (htg : ∀ i ∈ tgIdx tg, i ∈ vs)
    (ht : ∀ (σ2 : St) (H2 F2 : Hp) (ρ2 : Env) (Qb : Bool → Hp → Prop), SR K c F2 H2 σ2 ρ2 → G K c W0 σ2 ρ2 F2 H2 (tf ρ2) (fun b ρ' F' H' => Qb b H') → tt σ2 H2 Qb) (S : SR K c F H σ ρ)
    (g : G K c W0 σ ρ F H ((sf ρ).bind fun r => (noEx (turns tg vs tf (fun ρ1 => opd (ef ρ1)) r.1 (wipeE r.2 vs) [])).bind fun q => .ok (.fr q.1, restore r.2 q.2 vs)) fun z ρ' F' H' => ∀ v, VR K c σ ρ' F' H' H v z → Q v H') :
    tLc (RI K c sf) (RGt K c tg) tt (RO K c W0 ef) vs σ H Q := by
  refine ⟨F, ρ, S, g.bind.imp fun ds ρ1 F1 H1 S1 X1 g1 J wk hlen Dl hD => ?_⟩
  cases hT : turns tg vs tf (fun ρ1 => opd (ef ρ1)) ds (wipeE ρ1 vs) [] with
  | bad => rw [hT] at g1; exact g1.elim
  | ex _ _ _ => rw [hT] at g1; exact g1.elim
  | ok q =>
  obtain ⟨accF, ρF⟩ := q
  rw [hT] at g1
  have g1 : G K c W0 σ ρ1 F1 H1 (.ok (.fr accF, restore ρ1 ρF vs)) (fun z ρ' F' H' => ∀ v, VR K c σ ρ' F' H' H v z → Q v H') := g1
  have SW := S1.wiped vs
  have DF := S1.freshF hD
  have D0 := S1.fresh0 hD
  let Inv' : Nat → Hp → Prop := fun i Hi => i ≤ ds.length ∧ ∃ (Fi : Hp) (ρi : Env) (acc : List D) (vacc : List V), SR K c Fi Hi (wipe σ vs) ρi ∧ Ext (wipe σ vs) (wipeE ρ1 vs) F1 H1 ρi Fi Hi ∧ Fi Dl = none ∧ ¬ owned (wipe σ vs) ρi Dl ∧
    Hi Dl = some (.lst vacc) ∧ DenL K Fi vacc acc ∧ acc.length ≤ i ∧ turns tg vs tf (fun ρ1 => opd (ef ρ1)) (ds.drop i) ρi acc = .ok (accF, ρF)
  refine ⟨fun i m Hi => m = ds.length - i ∧ Inv' i Hi, ⟨ds.length, by simp, Nat.zero_le _, F1, wipeE ρ1 vs, [], [], SW.laid hD (S1.hl.updL (p := Dl) (Nat.zero_le _)), .laid hD, DF, fun z => S1.freshO hD (owned_wipe z), upd_same, .nil, Nat.le_refl _, hT⟩, ?_⟩
  rintro i m Hi ⟨rfl, hi, Fi, ρi, acc, vacc, Si, Xi, fD, oD, hDi, dl, hal, hTi⟩
  obtain ⟨wst, wgo⟩ := wk Fi Hi (wipe σ vs) ρi Si Xi.exF
  by_cases hlt : i < ds.length
  · refine .inr ?_
    obtain ⟨go, yl⟩ := wgo i ds[i] (List.getElem?_eq_getElem hlt)
    refine ⟨go, fun H' => Inv' (i + 1) H', fun H' h' => ⟨ds.length - (i + 1), by omega, rfl, h'⟩, fun x H2 hy => ?_⟩
    obtain ⟨F2, S2, X2, dx⟩ := yl x H2 hy
    rw [List.drop_eq_getElem_cons hlt] at hTi
    have hTi : (Res.need (storeTg ρi tg ds[i])).bind (fun ρ1 => (tf ρ1).bind fun r => if r.1 then (opd (ef r.2)).bind fun r2 => (Res.need (alias1 r2.2 r2.1)).bind fun r3 => turns tg vs tf (fun ρ1 => opd (ef ρ1)) (ds.drop (i + 1)) (wipeE r3.2 vs) (acc ++ [r3.1])
      else turns tg vs tf (fun ρ1 => opd (ef ρ1)) (ds.drop (i + 1)) (wipeE r.2 vs) acc) = .ok (accF, ρF) := hTi
    cases hst : storeTg ρi tg ds[i] with
    | none => rw [hst] at hTi; cases hTi
    | some ρ2 =>
    rw [hst] at hTi
    have hTi : (tf ρ2).bind (fun r => if r.1 then (opd (ef r.2)).bind fun r2 => (Res.need (alias1 r2.2 r2.1)).bind fun r3 => turns tg vs tf (fun ρ1 => opd (ef ρ1)) (ds.drop (i + 1)) (wipeE r3.2 vs) (acc ++ [r3.1])
      else turns tg vs tf (fun ρ1 => opd (ef ρ1)) (ds.drop (i + 1)) (wipeE r.2 vs) acc) = .ok (accF, ρF) := hTi
    -- what stands of the new list along the way
    have hD2 : H2 Dl = some (.lst vacc) := X2.keepH Dl _ hDi oD
    have fD2 : F2 Dl = none := by
      cases q : F2 Dl with
      | none => rfl
      | some o =>
        rcases X2.grow Dl (by rw [q]; intro z; cases z) with z | z | z
        · exact absurd fD z
        · rw [hDi] at z; cases z
        · exact absurd z oD
    refine ⟨F2, ρi, ds[i], ρ2, S2, dx, hst, fun σ2 S3 hw => ?_⟩
    have hwv : wipe σ2 vs = wipe σ vs := by
      have := hw vs htg
      rw [this]
      exact wipe_wipe
    have hwt : wipe σ2 (tgIdx tg) = wipe (wipe σ vs) (tgIdx tg) := hw _ fun _ h => h
    have oD2 : ¬ owned σ2 ρ2 Dl := fun z => oD (owned_store hst hwt z)
    refine ⟨by rw [hwv], ?_⟩
    refine ht σ2 H2 F2 ρ2 _ S3 ?_
    cases htf : tf ρ2 with
    | bad => rw [htf] at hTi; cases hTi
    | ex _ _ _ => rw [htf] at hTi; cases hTi
    | ok r =>
    obtain ⟨b, ρ3⟩ := r
    rw [htf] at hTi
    intro F3 H3 S4 X3
    have X3 : Ext σ2 ρ2 F2 H2 ρ3 F3 H3 := X3
    have S4 : SR K c F3 H3 σ2 ρ3 := S4
    have step : ∀ {F4 H4 : Hp} {ρ4 : Env}, Ext σ2 ρ2 F2 H2 ρ4 F4 H4 → H4 Dl = some (.lst vacc) ∧ F4 Dl = none ∧ ¬ owned σ2 ρ4 Dl := fun {F4 H4 ρ4} X => ⟨X.keepH Dl _ hD2 oD2, by
      cases q : F4 Dl with
      | none => rfl
      | some o =>
        rcases X.grow Dl (by rw [q]; intro z; cases z) with z | z | z
        · exact absurd fD2 z
        · rw [hD2] at z; cases z
        · exact absurd z oD2, fun z => oD2 (X.own Dl z)⟩
    have sw : ∀ {F4 H4 : Hp} {ρ4 : Env}, SR K c F4 H4 σ2 ρ4 → SR K c F4 H4 (wipe σ vs) (wipeE ρ4 vs) := fun {F4 H4 ρ4} S => by
      have := S.wiped vs
      rwa [hwv] at this
    have xw : ∀ {F4 H4 : Hp} {ρ4 : Env}, Ext σ2 ρ2 F2 H2 ρ4 F4 H4 → Ext (wipe σ vs) (wipeE ρ1 vs) F1 H1 (wipeE ρ4 vs) F4 H4 := fun {F4 H4 ρ4} X => (Xi.trans X2).trans (Ext.turn hst hwt X hwv)
    cases b with
    | false =>
      rw [if_neg Bool.false_ne_true]
      obtain ⟨q1, q2, q3⟩ := step X3
      exact ⟨by omega, F3, wipeE ρ3 vs, acc, vacc, sw S4, xw X3, q2, fun z => q3 (owned_wipe (vs := vs) (by rw [hwv]; exact z)), q1, (dl.mono X2.exF).mono X3.exF, by omega, hTi⟩
    | true =>
      rw [if_pos rfl]
      have hTi : (opd (ef ρ3)).bind (fun r2 => (Res.need (alias1 r2.2 r2.1)).bind fun r3 => turns tg vs tf (fun ρ1 => opd (ef ρ1)) (ds.drop (i + 1)) (wipeE r3.2 vs) (acc ++ [r3.1])) = .ok (accF, ρF) := hTi
      refine ⟨F3, ρ3, S4, ?_⟩
      cases hef : opd (ef ρ3) with
      | bad => rw [hef] at hTi; cases hTi
      | ex _ _ _ => rw [hef] at hTi; cases hTi
      | ok r =>
      obtain ⟨z, ρ4⟩ := r
      rw [hef] at hTi
      have hTi : (Res.need (alias1 ρ4 z)).bind (fun r3 => turns tg vs tf (fun ρ1 => opd (ef ρ1)) (ds.drop (i + 1)) (wipeE r3.2 vs) (acc ++ [r3.1])) = .ok (accF, ρF) := hTi
      intro F4 H4 S5 X4 y oy
      cases hal1 : alias1 ρ4 z with
      | none => rw [hal1] at hTi; cases hTi
      | some r3 =>
      obtain ⟨d, ρ5⟩ := r3
      rw [hal1] at hTi
      have hTi : turns tg vs tf (fun ρ1 => opd (ef ρ1)) (ds.drop (i + 1)) (wipeE ρ5 vs) (acc ++ [d]) = .ok (accF, ρF) := hTi
      obtain ⟨F5, S6, X5, dy⟩ := SR.alias1 S5 oy hal1
      have X6 := X3.trans (Ext.trans X4 X5)
      obtain ⟨q1, q2, q3⟩ := step X6
      have hvl : vacc.length < ds.length := by rw [dl.length]; omega
      have nw : ¬ owned (wipe σ vs) (wipeE ρ5 vs) Dl := fun z => q3 (owned_wipe (vs := vs) (by rw [hwv]; exact z))
      refine ⟨vacc, q1, by omega, by omega, F5, wipeE ρ5 vs, acc ++ [d], vacc ++ [y], (sw S6).mutD q2 D0 nw (S6.hl.updL (p := Dl) (by rw [List.length_append]; simp; omega)), (xw X6).mutNew hD, q2, nw, upd_same, ?_, by rw [List.length_append]; simp; omega, hTi⟩
      exact ((dl.mono X2.exF).mono X6.exF).append (.cons dy .nil)
  · have e : i = ds.length := by omega
    subst e
    refine .inl ⟨wst _ (Nat.le_refl _), ?_⟩
    rw [List.drop_length] at hTi
    have hTi : (.ok (acc, ρi) : Res (List D × Env)) = .ok (accF, ρF) := hTi
    cases hTi
    obtain ⟨SF, XF⟩ := S1.restored Si Xi
    refine g1.here SF XF _ ⟨Dl, vacc, rfl, hDi, fD, D0, X1.alive Dl hD, dl, fun ⟨j, h1, h2⟩ => ?_⟩
    exact S1.freshO hD (XF.own Dl ⟨j, h1, h2⟩)
end
section
variable {X : Cx} {c : FC} {pos : Pos} {P : Prog} {n : Nat} {kws : String → List (Nat × List String × List Nat)} {N : List Str} {sc : Scope} {call : CallT} {lo : String → Option (List Nat)} {elt tgE iter : Expr} {ie : E} {tg : Tg} {src : Src} {scope : Scope} {own : List (Str × Nat)}
theorem e_comp (hc : X.calm = true) (hN : X.N.Nodup) (hi : PI X tgE iter (RI X.K c (evSrc call lo src))) (ok : BlkOk X.N X.env.scope scope own)
    (hg : ∀ (s : Shared) (H : Hp) (C : Addr) (cl : List (Str × Addr)) (fp : List Addr), PG (X.blk s H scope (compEnvC scope cl C X.env) fp) tgE (RGt X.K c tg))
    (he : ∀ (s : Shared) (H : Hp) (C : Addr) (cl : List (Str × Addr)) (fp : List Addr), PE (X.blk s H scope (compEnvC scope cl C X.env) fp) elt (RE X.K c W0 (evE call lo ie)))
    (hs : ∀ x, foldedSetIterable iter X.env x = pure x) (htg : ∀ i ∈ tgIdx tg, i ∈ own.map (·.2)) :
    PE X (.ListComp elt [⟨tgE, iter, [], 0⟩] scope pos) (RE X.K c W0 (evE call lo (.comp ie tg src (own.map (·.2))))) :=
  re_of (pe_lc hc hN hi ok hg (fun _ _ _ _ _ => pts_nil) (fun s H C cl fp => pe_opd (he s H C cl fp)) hs) fun {σ F ρ H Q} S g =>
    lc_main (tt := tYes) (tf := fun ρ1 => .ok (true, ρ1)) htg (fun σ2 H2 F2 ρ2 Qb S2 g2 => G.here (a := true) g2 S2 .refl) S g
theorem e_compif {cond : Expr} {it : T} (hc : X.calm = true) (hN : X.N.Nodup) (hi : PI X tgE iter (RI X.K c (evSrc call lo src))) (ok : BlkOk X.N X.env.scope scope own)
    (hg : ∀ (s : Shared) (H : Hp) (C : Addr) (cl : List (Str × Addr)) (fp : List Addr), PG (X.blk s H scope (compEnvC scope cl C X.env) fp) tgE (RGt X.K c tg))
    (ht : ∀ (s : Shared) (H : Hp) (C : Addr) (cl : List (Str × Addr)) (fp : List Addr), PT (X.blk s H scope (compEnvC scope cl C X.env) fp) cond (RT X.K c W0 (evT call lo it)))
    (he : ∀ (s : Shared) (H : Hp) (C : Addr) (cl : List (Str × Addr)) (fp : List Addr), PE (X.blk s H scope (compEnvC scope cl C X.env) fp) elt (RE X.K c W0 (evE call lo ie)))
    (hs : ∀ x, foldedSetIterable iter X.env x = pure x) (htg : ∀ i ∈ tgIdx tg, i ∈ own.map (·.2)) :
    PE X (.ListComp elt [⟨tgE, iter, [cond], 0⟩] scope pos) (RE X.K c W0 (evE call lo (.compif ie tg src it (own.map (·.2))))) :=
  re_of (pe_lc hc hN hi ok hg (fun s H C cl fp => pts_one (ht s H C cl fp)) (fun s H C cl fp => pe_opd (he s H C cl fp)) hs) fun {σ F ρ H Q} S g =>
    lc_main (tf := fun ρ1 => evT call lo it ρ1) htg (fun σ2 H2 F2 ρ2 Qb S2 g2 => ⟨F2, ρ2, S2, g2⟩) S g
end
end PX
/-! PX, part k2: comprehensions with two sources. -/
namespace PX
open PySem PySem.Spec PyProof.Rows L2
/-- from a state to a later one, the names otherwise -/
structure ExtS (σ : St) (ρ : Env) (F H : Hp) (σ' : St) (ρ' : Env) (F' H' : Hp) : Prop where
  exF : Sm F F'
  grow : ∀ a, F' a ≠ none → F a ≠ none ∨ H a = none ∨ owned σ ρ a
  keepH : ∀ a o, H a = some o → ¬ owned σ ρ a → H' a = some o
  alive : ∀ a, H' a = none → H a = none
  own : ∀ a, owned σ' ρ' a → owned σ ρ a
section
variable {σ σ1 σ2 : St} {ρ ρ1 ρ2 : Env} {F F1 F2 H H1 H2 : Hp}
theorem ExtS.of (e : Ext σ ρ F H ρ1 F1 H1) : ExtS σ ρ F H σ ρ1 F1 H1 := ⟨e.exF, e.grow, e.keepH, e.alive, e.own⟩
theorem ExtS.ext (e : ExtS σ ρ F H σ ρ1 F1 H1) : Ext σ ρ F H ρ1 F1 H1 := ⟨e.exF, e.grow, e.keepH, e.alive, e.own⟩
theorem ExtS.step (e : ExtS σ ρ F H σ1 ρ1 F1 H1) (e2 : Ext σ1 ρ1 F1 H1 ρ2 F2 H2) : ExtS σ ρ F H σ1 ρ2 F2 H2 :=
  ⟨e.exF.trans e2.exF, fun a h => by
    rcases e2.grow a h with h | h | h
    · exact e.grow a h
    · exact .inr (.inl (e.alive a h))
    · exact .inr (.inr (e.own a h)), fun a o h n => e2.keepH a o (e.keepH a o h n) fun z => n (e.own a z), fun a h => e.alive a (e2.alive a h), fun a h => e.own a (e2.own a h)⟩
theorem ExtS.store {tg : Tg} {d : D} (e : ExtS σ ρ F H σ1 ρ1 F1 H1) (hs : storeTg ρ1 tg d = some ρ2) (hw : wipe σ2 (tgIdx tg) = wipe σ1 (tgIdx tg)) : ExtS σ ρ F H σ2 ρ2 F1 H1 :=
  ⟨e.exF, e.grow, e.keepH, e.alive, fun a h => e.own a (owned_store hs hw h)⟩
theorem ExtS.wiped {vs : List Nat} (e : ExtS σ ρ F H σ1 ρ1 F1 H1) (hw : wipe σ1 vs = σ2) : ExtS σ ρ F H σ2 (wipeE ρ1 vs) F1 H1 :=
  ⟨e.exF, e.grow, e.keepH, e.alive, fun a h => e.own a (owned_wipe (vs := vs) (by rw [hw]; exact h))⟩
theorem ExtS.mutNew {p : Addr} {o : HO} (e : ExtS σ ρ F H σ1 ρ1 F1 H1) (hp : H p = none) : ExtS σ ρ F H σ1 ρ1 F1 (upd H1 p o) :=
  ⟨e.exF, e.grow, fun a u h n => by
    rw [upd_ne fun z => by rw [z, hp] at h; cases h]
    exact e.keepH a u h n, fun a h => by
    by_cases q : a = p
    · rw [q]; exact hp
    · rw [upd_ne q] at h; exact e.alive a h, e.own⟩
end
theorem wipe_sub {σ : St} {vs vs1 : List Nat} (h : ∀ i ∈ vs1, i ∈ vs) : wipe (wipe σ vs1) vs = wipe σ vs := by
  refine List.ext_getElem? fun j => ?_
  rw [wipe_get, wipe_get, wipe_length, wipe_get]
  by_cases q : j ∈ vs ∧ j < σ.length
  · rw [if_pos q, if_pos q]
  · rw [if_neg q, if_neg q]
    by_cases q1 : j ∈ vs1 ∧ j < σ.length
    · exact absurd ⟨h j q1.1, q1.2⟩ q
    · rw [if_neg q1]
section
variable {tg tg1 : Tg} {own own1 : List Nat} {t : Env → Res (Bool × Env)} {e : Env → Res (Val × Env)} {s1 : Env → Res (List D × Env)}
theorem turns_le : ∀ {xs : List D} {ρ ρ' : Env} {acc acc' : List D}, turns tg own t e xs ρ acc = .ok (acc', ρ') → acc.length ≤ acc'.length
  | [], ρ, ρ', acc, acc', h => by
    have h : (.ok (acc, ρ) : Res (List D × Env)) = .ok (acc', ρ') := h
    cases h
    exact Nat.le_refl _
  | x :: xs, ρ, ρ', acc, acc', h => by
    unfold turns at h
    cases h1 : storeTg ρ tg x with
    | none => rw [h1] at h; cases h
    | some ρ1 =>
    rw [h1, need_some, bind_ok] at h
    cases h2 : t ρ1 with
    | bad => rw [h2] at h; cases h
    | ex _ _ _ => rw [h2] at h; cases h
    | ok r =>
    rw [h2, bind_ok] at h
    split at h
    · cases h3 : e r.2 with
      | bad => rw [h3] at h; cases h
      | ex _ _ _ => rw [h3] at h; cases h
      | ok r2 =>
      rw [h3, bind_ok] at h
      cases h4 : alias1 r2.2 r2.1 with
      | none => rw [h4] at h; cases h
      | some r3 =>
      rw [h4, need_some, bind_ok] at h
      have := turns_le h
      rw [List.length_append] at this
      exact Nat.le_trans (Nat.le_add_right _ _) this
    · exact turns_le h
theorem turns2_le : ∀ {xs : List D} {ρ ρ' : Env} {acc acc' : List D}, turns2 tg own s1 tg1 own1 e xs ρ acc = .ok (acc', ρ') → acc.length ≤ acc'.length
  | [], ρ, ρ', acc, acc', h => by
    have h : (.ok (acc, ρ) : Res (List D × Env)) = .ok (acc', ρ') := h
    cases h
    exact Nat.le_refl _
  | x :: xs, ρ, ρ', acc, acc', h => by
    unfold turns2 at h
    cases h1 : storeTg ρ tg x with
    | none => rw [h1] at h; cases h
    | some ρ1 =>
    rw [h1, need_some, bind_ok] at h
    cases h2 : s1 ρ1 with
    | bad => rw [h2] at h; cases h
    | ex _ _ _ => rw [h2] at h; cases h
    | ok r =>
    rw [h2, bind_ok] at h
    cases h3 : turns tg1 own1 (fun ρ2 => .ok (true, ρ2)) e r.1 (wipeE r.2 own1) acc with
    | bad => rw [h3] at h; cases h
    | ex _ _ _ => rw [h3] at h; cases h
    | ok q =>
    obtain ⟨a, b⟩ := q
    rw [h3, bind_ok] at h
    exact Nat.le_trans (turns_le h3) (turns2_le h)
end
section
variable {K : PySem.W.Frag} {c : FC} {σ : St} {vs vs1 : List Nat} {tg tg1 : Tg} {ef : Env → Res (Val × Env)} {sf1 : Env → Res (List D × Env)} {ds : List D}
theorem D_kept {σ : St} {ρ ρ' : Env} {F H F' H' : Hp} {Dl : Addr} {v : List V} (X : Ext σ ρ F H ρ' F' H') (h1 : H Dl = some (.lst v)) (h2 : F Dl = none) (h3 : ¬ owned σ ρ Dl) : H' Dl = some (.lst v) ∧ F' Dl = none ∧ ¬ owned σ ρ' Dl :=
  ⟨X.keepH Dl _ h1 h3, by
    cases q : F' Dl with
    | none => rfl
    | some o =>
      rcases X.grow Dl (by rw [q]; intro z; cases z) with z | z | z
      · exact absurd h2 z
      · rw [h1] at z; cases z
      · exact absurd z h3, fun z => h3 (X.own Dl z)⟩
theorem tYes_if {σ : St} {H : Hp} {p q : Hp → Prop} (h : p H) : tYes σ H fun b H3 => if b = true then p H3 else q H3 := by
  unfold tYes
  simpa using h
theorem lc2_main {F H : Hp} {ρ : Env} {Q : VK} {sf : Env → Res (List D × Env)} (htg : ∀ i ∈ tgIdx tg, i ∈ vs) (htg1 : ∀ i ∈ tgIdx tg1, i ∈ vs1) (hv : ∀ i ∈ vs1, i ∈ vs) (S : SR K c F H σ ρ)
    (g : G K c W0 σ ρ F H ((sf ρ).bind fun r => (noEx (turns2 tg vs sf1 tg1 vs1 (fun ρ1 => opd (ef ρ1)) r.1 (wipeE r.2 vs) [])).bind fun q => if fits q.1.length then .ok (.fr q.1, restore r.2 q.2 vs) else .bad) fun z ρ' F' H' => ∀ v, VR K c σ ρ' F' H' H v z → Q v H') :
    tLc2 (RI K c sf) (RGt K c tg) tYes (RI K c sf1) (RGt K c tg1) tYes (RO K c W0 ef) vs vs1 σ H Q := by
  refine ⟨F, ρ, S, g.bind.imp fun ds ρ1 F1 H1 S1 X1 g1 J wk hlen Dl hD => ?_⟩
  cases hT : turns2 tg vs sf1 tg1 vs1 (fun ρ1 => opd (ef ρ1)) ds (wipeE ρ1 vs) [] with
  | bad => rw [hT] at g1; exact g1.elim
  | ex _ _ _ => rw [hT] at g1; exact g1.elim
  | ok q =>
  obtain ⟨accF, ρF⟩ := q
  rw [hT] at g1
  have g1 : G K c W0 σ ρ1 F1 H1 (if fits accF.length then .ok (.fr accF, restore ρ1 ρF vs) else .bad) (fun z ρ' F' H' => ∀ v, VR K c σ ρ' F' H' H v z → Q v H') := g1
  obtain ⟨hfit, g1⟩ := g1.ite
  have hfit : accF.length ≤ sizeLine := of_decide_eq_true hfit
  have SW := S1.wiped vs
  have DF := S1.freshF hD
  have D0 := S1.fresh0 hD
  let Inv' : Nat → Hp → Prop := fun i Hi => i ≤ ds.length ∧ ∃ (Fi : Hp) (ρi : Env) (acc : List D) (vacc : List V), SR K c Fi Hi (wipe σ vs) ρi ∧ ExtS (wipe σ vs) (wipeE ρ1 vs) F1 H1 (wipe σ vs) ρi Fi Hi ∧ Fi Dl = none ∧ ¬ owned (wipe σ vs) ρi Dl ∧
    Hi Dl = some (.lst vacc) ∧ DenL K Fi vacc acc ∧ turns2 tg vs sf1 tg1 vs1 (fun ρ1 => opd (ef ρ1)) (ds.drop i) ρi acc = .ok (accF, ρF)
  refine ⟨fun i m Hi => m = ds.length - i ∧ Inv' i Hi, ⟨ds.length, by simp, Nat.zero_le _, F1, wipeE ρ1 vs, [], [], SW.laid hD (S1.hl.updL (p := Dl) (Nat.zero_le _)), .of (.laid hD), DF, fun z => S1.freshO hD (owned_wipe z), upd_same, .nil, hT⟩, ?_⟩
  rintro i m Hi ⟨rfl, hi, Fi, ρi, acc, vacc, Si, Xi, fD, oD, hDi, dl, hTi⟩
  obtain ⟨wst, wgo⟩ := wk Fi Hi (wipe σ vs) ρi Si Xi.exF
  by_cases hlt : i < ds.length
  · refine .inr ?_
    obtain ⟨go, yl⟩ := wgo i ds[i] (List.getElem?_eq_getElem hlt)
    refine ⟨go, fun H' => Inv' (i + 1) H', fun H' h' => ⟨ds.length - (i + 1), by omega, rfl, h'⟩, fun x H2 hy => ?_⟩
    obtain ⟨F2, S2, X2, dx⟩ := yl x H2 hy
    rw [List.drop_eq_getElem_cons hlt] at hTi
    unfold turns2 at hTi
    cases hst : storeTg ρi tg ds[i] with
    | none => rw [hst] at hTi; cases hTi
    | some ρ2 =>
    rw [hst, need_some, bind_ok] at hTi
    obtain ⟨hD2, fD2, oD2'⟩ := D_kept X2 hDi fD oD
    refine ⟨F2, ρi, ds[i], ρ2, S2, dx, hst, fun σ2 S3 hw => ?_⟩
    have hwv : wipe σ2 vs = wipe σ vs := by
      have := hw vs htg
      rw [this]
      exact wipe_wipe
    have hwt : wipe σ2 (tgIdx tg) = wipe (wipe σ vs) (tgIdx tg) := hw _ fun _ h => h
    have oD2 : ¬ owned σ2 ρ2 Dl := fun z => oD (owned_store hst hwt z)
    refine ⟨by rw [hwv], ?_⟩
    refine tYes_if ?_
    refine ⟨F2, ρ2, S3, ?_⟩
    cases hsf : sf1 ρ2 with
    | bad => rw [hsf] at hTi; cases hTi
    | ex _ _ _ => rw [hsf] at hTi; cases hTi
    | ok r =>
    obtain ⟨ds1, ρ3⟩ := r
    rw [hsf, bind_ok] at hTi
    intro F3 H3 S4 X3 J1 wk1 hlen1
    have X3 : Ext σ2 ρ2 F2 H2 ρ3 F3 H3 := X3
    have S4 : SR K c F3 H3 σ2 ρ3 := S4
    have hTi : (turns tg1 vs1 (fun ρ2 => .ok (true, ρ2)) (fun ρ1 => opd (ef ρ1)) ds1 (wipeE ρ3 vs1) acc).bind (fun q => turns2 tg vs sf1 tg1 vs1 (fun ρ1 => opd (ef ρ1)) (ds.drop (i + 1)) (wipeE q.2 vs) q.1) = .ok (accF, ρF) := hTi
    cases hTI : turns tg1 vs1 (fun ρ2 => .ok (true, ρ2)) (fun ρ1 => opd (ef ρ1)) ds1 (wipeE ρ3 vs1) acc with
    | bad => rw [hTI] at hTi; cases hTi
    | ex _ _ _ => rw [hTI] at hTi; cases hTi
    | ok q =>
    obtain ⟨accI, ρI⟩ := q
    rw [hTI, bind_ok] at hTi
    have hTi : turns2 tg vs sf1 tg1 vs1 (fun ρ1 => opd (ef ρ1)) (ds.drop (i + 1)) (wipeE ρI vs) accI = .ok (accF, ρF) := hTi
    have hIF : accI.length ≤ sizeLine := Nat.le_trans (turns2_le hTi) hfit
    obtain ⟨hD3, fD3, oD3⟩ := D_kept X3 hD2 fD2 oD2
    have XO : ExtS (wipe σ vs) (wipeE ρ1 vs) F1 H1 σ2 ρ3 F3 H3 := ((Xi.step X2).store hst hwt).step X3
    let InvI : Nat → Hp → Prop := fun j Hj => j ≤ ds1.length ∧ ∃ (Fj : Hp) (ρj : Env) (accj : List D) (vaccj : List V), SR K c Fj Hj (wipe σ2 vs1) ρj ∧ ExtS (wipe σ vs) (wipeE ρ1 vs) F1 H1 (wipe σ2 vs1) ρj Fj Hj ∧ Sm F3 Fj ∧ Fj Dl = none ∧ ¬ owned (wipe σ2 vs1) ρj Dl ∧
      Hj Dl = some (.lst vaccj) ∧ DenL K Fj vaccj accj ∧ turns tg1 vs1 (fun ρ2 => .ok (true, ρ2)) (fun ρ1 => opd (ef ρ1)) (ds1.drop j) ρj accj = .ok (accI, ρI)
    refine ⟨fun j m Hj => m = ds1.length - j ∧ InvI j Hj, ⟨ds1.length, by simp, Nat.zero_le _, F3, wipeE ρ3 vs1, acc, vacc, S4.wiped vs1, XO.wiped rfl, Sm.refl _, fD3, fun z => oD3 (owned_wipe z), hD3, (dl.mono X2.exF).mono X3.exF, hTI⟩, ?_⟩
    rintro j m Hj ⟨rfl, hj, Fj, ρj, accj, vaccj, Sj, Xj, eF, fDj, oDj, hDj, dlj, hTj⟩
    obtain ⟨wst1, wgo1⟩ := wk1 Fj Hj (wipe σ2 vs1) ρj Sj eF
    by_cases hlt1 : j < ds1.length
    · refine .inr ?_
      obtain ⟨go1, yl1⟩ := wgo1 j ds1[j] (List.getElem?_eq_getElem hlt1)
      refine ⟨go1, fun H' => InvI (j + 1) H', fun H' h' => ⟨ds1.length - (j + 1), by omega, rfl, h'⟩, fun x1 H5 hy1 => ?_⟩
      obtain ⟨F5, S5, X5, dx1⟩ := yl1 x1 H5 hy1
      rw [List.drop_eq_getElem_cons hlt1] at hTj
      unfold turns at hTj
      cases hst1 : storeTg ρj tg1 ds1[j] with
      | none => rw [hst1] at hTj; cases hTj
      | some ρ4 =>
      rw [hst1, need_some, bind_ok, bind_ok, if_pos rfl] at hTj
      obtain ⟨hD5, fD5, oD5⟩ := D_kept X5 hDj fDj oDj
      refine ⟨F5, ρj, ds1[j], ρ4, S5, dx1, hst1, fun σ3 S6 hw1 => ?_⟩
      have hwv1 : wipe σ3 vs1 = wipe σ2 vs1 := by
        have := hw1 vs1 htg1
        rw [this]
        exact wipe_wipe
      have hwt1 : wipe σ3 (tgIdx tg1) = wipe (wipe σ2 vs1) (tgIdx tg1) := hw1 _ fun _ h => h
      have oD6 : ¬ owned σ3 ρ4 Dl := fun z => oD5 (owned_store hst1 hwt1 z)
      refine ⟨by rw [hwv1], ?_⟩
      refine tYes_if ?_
      refine ⟨F5, ρ4, S6, ?_⟩
      cases hef : opd (ef ρ4) with
      | bad => rw [hef] at hTj; cases hTj
      | ex _ _ _ => rw [hef] at hTj; cases hTj
      | ok r =>
      obtain ⟨z, ρ5⟩ := r
      rw [hef, bind_ok] at hTj
      intro F6 H6 S7 X6 y oy
      have hTj : (Res.need (alias1 ρ5 z)).bind (fun r3 => turns tg1 vs1 (fun ρ2 => .ok (true, ρ2)) (fun ρ1 => opd (ef ρ1)) (ds1.drop (j + 1)) (wipeE r3.2 vs1) (accj ++ [r3.1])) = .ok (accI, ρI) := hTj
      cases hal1 : alias1 ρ5 z with
      | none => rw [hal1] at hTj; cases hTj
      | some r3 =>
      obtain ⟨d, ρ6⟩ := r3
      rw [hal1, need_some, bind_ok] at hTj
      have hTj : turns tg1 vs1 (fun ρ2 => .ok (true, ρ2)) (fun ρ1 => opd (ef ρ1)) (ds1.drop (j + 1)) (wipeE ρ6 vs1) (accj ++ [d]) = .ok (accI, ρI) := hTj
      obtain ⟨F7, S8, X7, dy⟩ := SR.alias1 S7 oy hal1
      have XX := Ext.trans X6 X7
      obtain ⟨hD7, fD7, oD7⟩ := D_kept XX hD5 fD5 oD6
      have hla := turns_le hTj
      rw [List.length_append, List.length_singleton] at hla
      have hvl : vaccj.length < sizeLine := by rw [dlj.length]; omega
      have nw : ¬ owned (wipe σ2 vs1) (wipeE ρ6 vs1) Dl := fun z => oD7 (owned_wipe (vs := vs1) (by rw [hwv1]; exact z))
      have SW1 : SR K c F7 H6 (wipe σ2 vs1) (wipeE ρ6 vs1) := by
        have := S8.wiped vs1
        rwa [hwv1] at this
      refine ⟨vaccj, hD7, hvl, by omega, F7, wipeE ρ6 vs1, accj ++ [d], vaccj ++ [y], SW1.mutD fD7 D0 nw (SW1.hl.updL (p := Dl) (by rw [List.length_append]; simp; omega)), ((((Xj.step X5).store hst1 hwt1).step XX).wiped hwv1).mutNew hD, ((eF.trans X5.exF).trans XX.exF), fD7, nw, upd_same, ?_, hTj⟩
      exact ((dlj.mono X5.exF).mono XX.exF).append (.cons dy .nil)
    · have e : j = ds1.length := by omega
      subst e
      refine .inl ⟨wst1 _ (Nat.le_refl _), ?_⟩
      rw [List.drop_length] at hTj
      have hTj : (.ok (accj, ρj) : Res (List D × Env)) = .ok (accI, ρI) := hTj
      cases hTj
      have hww : wipe (wipe σ2 vs1) vs = wipe σ vs := by rw [wipe_sub hv, hwv]
      have SO : SR K c Fj Hj (wipe σ vs) (wipeE ρI vs) := by
        have := Sj.wiped vs
        rwa [hww] at this
      exact ⟨by omega, Fj, wipeE ρI vs, accI, vaccj, SO, Xj.wiped hww, fDj, fun z => oDj (owned_wipe (vs := vs) (by rw [hww]; exact z)), hDj, dlj, hTi⟩
  · have e : i = ds.length := by omega
    subst e
    refine .inl ⟨wst _ (Nat.le_refl _), ?_⟩
    rw [List.drop_length] at hTi
    have hTi : (.ok (acc, ρi) : Res (List D × Env)) = .ok (accF, ρF) := hTi
    cases hTi
    obtain ⟨SF, XF⟩ := S1.restored Si Xi.ext
    refine g1.here SF XF _ ⟨Dl, vacc, rfl, hDi, fD, D0, X1.alive Dl hD, dl, fun ⟨j, h1, h2⟩ => ?_⟩
    exact S1.freshO hD (XF.own Dl ⟨j, h1, h2⟩)
end
section
variable {X : Cx} {c : FC} {pos : Pos} {call : CallT} {lo : String → Option (List Nat)} {elt tgE iter tgE1 iter1 : Expr} {ie : E} {tg tg1 : Tg} {src src1 : Src} {scope : Scope} {own : List (Str × Nat)} {vs1 : List Nat}
theorem e_comp2 (hc : X.calm = true) (hN : X.N.Nodup) (hi : PI X tgE iter (RI X.K c (evSrc call lo src))) (ok : BlkOk X.N X.env.scope scope own) (hv : ∀ i ∈ vs1, i ∈ own.map (·.2))
    (hg : ∀ (s : Shared) (H : Hp) (C : Addr) (cl : List (Str × Addr)) (fp : List Addr), PG (X.blk s H scope (compEnvC scope cl C X.env) fp) tgE (RGt X.K c tg))
    (hi1 : ∀ (s : Shared) (H : Hp) (C : Addr) (cl : List (Str × Addr)) (fp : List Addr), PI (X.blk s H scope (compEnvC scope cl C X.env) fp) tgE1 iter1 (RI X.K c (evSrc call lo src1)))
    (hg1 : ∀ (s : Shared) (H : Hp) (C : Addr) (cl : List (Str × Addr)) (fp : List Addr), PG (X.blk s H scope (compEnvC scope cl C X.env) fp) tgE1 (RGt X.K c tg1))
    (he : ∀ (s : Shared) (H : Hp) (C : Addr) (cl : List (Str × Addr)) (fp : List Addr), PE (X.blk s H scope (compEnvC scope cl C X.env) fp) elt (RE X.K c W0 (evE call lo ie)))
    (hs : ∀ x, foldedSetIterable iter X.env x = pure x) (hs1 : ∀ env x, foldedSetIterable iter1 env x = pure x) (htg : ∀ i ∈ tgIdx tg, i ∈ own.map (·.2)) (htg1 : ∀ i ∈ tgIdx tg1, i ∈ vs1) :
    PE X (.ListComp elt [⟨tgE, iter, [], 0⟩, ⟨tgE1, iter1, [], 0⟩] scope pos) (RE X.K c W0 (evE call lo (.comp2 ie tg src tg1 src1 (own.map (·.2)) vs1))) :=
  re_of (pe_lc2 hc hN hi ok hv hg (fun _ _ _ _ _ => pts_nil) hi1 hg1 (fun _ _ _ _ _ => pts_nil) (fun s H C cl fp => pe_opd (he s H C cl fp)) hs hs1) fun {σ F ρ H Q} S g =>
    lc2_main (sf1 := fun ρ1 => evSrc call lo src1 ρ1) htg htg1 hv S g
end
end PX
/-! PX, part l: statements. -/
namespace PX
open PySem PySem.Spec PyProof.Rows L2

def Out.env : Out → Env
  | .nx ρ => ρ
  | .ret _ ρ => ρ
  | .bk ρ => ρ
  | .ct ρ => ρ
def EndsAt (K : PySem.W.Frag) (c : FC) (D : Ends) (σ : St) (F H : Hp) : Out → Prop
  | .nx _ => D.nx σ H
  | .bk _ => D.bk σ H
  | .ct _ => D.ct σ H
  | .ret v ρ => ∀ x, VR K c σ ρ F H c.H0 x v → D.rt x H
def GS (K : PySem.W.Frag) (c : FC) (W : XW) (F : Hp) (r : Res Out) (D : Ends) : Prop :=
  match r with
  | .ok o => ∀ σ' F' H', SR K c F' H' σ' o.env → Sm F F' → EndsAt K c D σ' F' H' o
  | .ex cn v ρ' => ∀ σ' F' H', SR K c F' H' σ' ρ' → Sm F F' → W cn v σ' ρ' F' H'
  | .bad => False
def RS (K : PySem.W.Frag) (c : FC) (W : XW) (f : Env → Res Out) : TS := fun D σ H => ∃ F ρ, SR K c F H σ ρ ∧ GS K c W F (f ρ) D
section
variable {K : PySem.W.Frag} {c : FC} {W : XW} {F : Hp} {D : Ends}
theorem GS.sm {F1 : Hp} {r : Res Out} (h : GS K c W F r D) (e : Sm F F1) : GS K c W F1 r D := by
  cases r with
  | ok o => exact fun σ' F' H' S e' => h σ' F' H' S (e.trans e')
  | ex cn v ρ' => exact fun σ' F' H' S e' => h σ' F' H' S (e.trans e')
  | bad => exact h
/-- an expression ahead of what follows -/
theorem GS.expr {α : Type} {σ : St} {ρ : Env} {H : Hp} {r : Res (α × Env)} {g : α × Env → Res Out} (h : GS K c W F (r.bind g) D) : G K c W σ ρ F H r fun a ρ1 F1 H1 => GS K c W F1 (g (a, ρ1)) D := by
  cases r with
  | ok q => exact fun F1 H1 S1 X1 => GS.sm h X1.exF
  | ex cn v ρ' => exact fun F1 H1 S1 X1 => h σ F1 H1 S1 X1.exF
  | bad => exact h
theorem GS.need {γ : Type} {o : Option γ} {f : γ → Res Out} (h : GS K c W F ((Res.need o).bind f) D) : ∃ a, o = some a ∧ GS K c W F (f a) D := by
  cases o with
  | none => exact h.elim
  | some a => exact ⟨a, rfl, h⟩
theorem GS.pure {γ : Type} {o : Res γ} {f : γ → Res Out} (ne : ∀ cn v ρ', o ≠ .ex cn v ρ') (h : GS K c W F (o.bind f) D) : ∃ a, o = .ok a ∧ GS K c W F (f a) D := by
  cases o with
  | ok a => exact ⟨a, rfl, h⟩
  | ex cn v ρ' => exact absurd rfl (ne cn v ρ')
  | bad => exact h.elim
end
theorem GS.ite {K : PySem.W.Frag} {c : FC} {W : XW} {F : Hp} {D : Ends} {p : Prop} [Decidable p] {r : Res Out} (g : GS K c W F (if p then r else .bad) D) : p ∧ GS K c W F r D := by
  by_cases h : p
  · rw [if_pos h] at g; exact ⟨h, g⟩
  · rw [if_neg h] at g; exact g.elim
/-- an operand that is to be an int -/
theorem G.opdI {K : PySem.W.Frag} {c : FC} {σ : St} {ρ : Env} {F H : Hp} {D : Ends} {r : Res (Val × Env)} {f : Int → Env → Res Out}
    (g : G K c W0 σ ρ F H r fun z ρ' F' H' => GS K c W0 F' ((Res.need (asInt z)).bind fun j => f j ρ') D) : G K c W0 σ ρ F H (opd r) fun z ρ' F' H' => ∀ v, OR K F' σ v z → ∃ i, v = .int i ∧ GS K c W0 F' (f i ρ') D := by
  unfold opd
  revert g
  cases r with
  | bad => exact fun q => q
  | ex _ _ _ => exact fun q => q
  | ok q =>
    obtain ⟨z, ρ1⟩ := q
    intro g F1 H1 S1 X1 v o
    have key : ∀ {i : Int}, asInt z = some i → SR K c F1 H1 σ ρ1 → Ext σ ρ F H ρ1 F1 H1 → ∃ i, v = .int i ∧ GS K c W0 F1 (f i ρ1) D := fun {i} e S X => by
      have gg := g F1 H1 S X
      have ez := asInt_some e
      subst ez
      exact ⟨i, Den.toInt o, gg⟩
    cases z with
    | d x =>
      obtain ⟨i, e, _⟩ := (g F1 H1 S1 X1).need
      exact key e S1 X1
    | own j =>
      obtain ⟨i, e, _⟩ := (g F1 H1 S1 X1).need
      cases e
    | fr xs =>
      obtain ⟨i, e, _⟩ := (g F1 H1 S1 X1).need
      cases e
theorem SR.place {K : PySem.W.Frag} {c : FC} {F H : Hp} {σ : St} {ρ : Env} (S : SR K c F H σ ρ) {i : Nat} (h : isOwn (slot ρ i) = true) : ∃ a, σ[i]? = some (some (.ref a)) := by
  cases hk : slot ρ i with
  | un => rw [hk] at h; cases h
  | fz _ => rw [hk] at h; cases h
  | ow xs => obtain ⟨a, _, h, _⟩ := S.ow i xs hk; exact ⟨a, h⟩
  | io xs => obtain ⟨a, _, h, _⟩ := S.io i xs hk; exact ⟨a, h⟩
theorem SR.item {K : PySem.W.Frag} {c : FC} {F H : Hp} {σ : St} {ρ : Env} (S : SR K c F H σ ρ) {i : Nat} {a : Addr} {j : Int} {d : D} (ha : σ[i]? = some (some (.ref a))) (h : ixL (slot ρ i) j = some d) : ∃ ws xs, H a = some (.lst ws) ∧ DenL K F ws xs ∧ atI xs j = some d ∧ slotD (slot ρ i) = some (.list xs) := by
  cases hk : slot ρ i with
  | un => rw [hk] at h; cases h
  | fz _ => rw [hk] at h; cases h
  | ow xs =>
    rw [hk] at h
    obtain ⟨b, ws, h1, h2, _, _, h3⟩ := S.ow i xs hk
    rw [ha] at h1; cases h1
    exact ⟨ws, xs, h2, h3, h, rfl⟩
  | io xs =>
    rw [hk] at h
    obtain ⟨b, ws, h1, h2, _, _, h3⟩ := S.io i xs hk
    rw [ha] at h1; cases h1
    exact ⟨ws, xs, h2, h3, h, rfl⟩
section
variable {X : Cx} {c : FC} {pos : Pos} {P : Prog} {n : Nat} {kws : String → List (Nat × List String × List Nat)} {N : List Str} {sc : Scope} {call : CallT} {lo : String → Option (List Nat)} {e a b tg : Expr} {ie ia ib : E}
theorem ps_imp {st : Stmt} {t t' : TS} (h : PS X st t) (hi : ∀ D σ H, t' D σ H → t D σ H) : PS X st t' := ⟨fun pins s σ H D I q => h.run pins s σ H D I (hi D σ H q)⟩
theorem pss_imp {st : List Stmt} {t t' : TS} (h : PSs X st t) (hi : ∀ D σ H, t' D σ H → t D σ H) : PSs X st t' := ⟨fun pins s σ H D I q => h.run pins s σ H D I (hi D σ H q)⟩

/-! ### blocks -/
theorem b_nil : PSs X [] (RS X.K c W0 (evSs call lo .nil)) := pss_imp pss_nil fun D σ H ⟨F, ρ, S, g⟩ => g σ F H S (Sm.refl F)
theorem b_cons {st : Stmt} {sts : List Stmt} {is : S} {iss : Ss} (h : PS X st (RS X.K c W0 (evS call lo is))) (h2 : PSs X sts (RS X.K c W0 (evSs call lo iss))) : PSs X (st :: sts) (RS X.K c W0 (evSs call lo (.cons is iss))) :=
  pss_imp (pss_cons h h2) fun D σ H ⟨F, ρ, S, g⟩ => by
    have g : GS X.K c W0 F ((evS call lo is ρ).bind fun o => match o with | .nx ρ1 => evSs call lo iss ρ1 | o => .ok o) D := g
    refine ⟨F, ρ, S, ?_⟩
    revert g
    cases evS call lo is ρ with
    | bad => exact fun g => g
    | ex cn v ρ' => exact fun g => g
    | ok o =>
      intro g σ' F' H' S' e'
      cases o with
      | nx ρ1 => exact ⟨F', ρ1, S', GS.sm (r := evSs call lo iss ρ1) g e'⟩
      | ret v ρ1 => exact g σ' F' H' S' e'
      | bk ρ1 => exact g σ' F' H' S' e'
      | ct ρ1 => exact g σ' F' H' S' e'

/-! ### small ones -/
theorem st_pass : PS X (.Pass pos) (RS X.K c W0 (evS call lo .pass)) := ps_imp ps_pass fun D σ H ⟨F, ρ, S, g⟩ => g σ F H S (Sm.refl F)
theorem st_brk : PS X (.Break pos) (RS X.K c W0 (evS call lo .brk)) := ps_imp ps_break fun D σ H ⟨F, ρ, S, g⟩ => g σ F H S (Sm.refl F)
theorem st_cont : PS X (.Continue pos) (RS X.K c W0 (evS call lo .cont)) := ps_imp ps_continue fun D σ H ⟨F, ρ, S, g⟩ => g σ F H S (Sm.refl F)
theorem st_never {st : Stmt} : PS X st (RS X.K c W0 (evS call lo .never)) := ps_imp ps_never fun D σ H ⟨F, ρ, S, g⟩ => g
theorem st_ex (h : PE X e (RE X.K c W0 (evE call lo ie))) (hs : swapsWith e none pos.line X.env = pure false) : PS X (.Expr e pos) (RS X.K c W0 (evS call lo (.ex ie))) :=
  ps_imp (ps_expr h hs) fun D σ H ⟨F, ρ, S, g⟩ => by
    have g : GS X.K c W0 F ((evE call lo ie ρ).bind fun r => .ok (.nx r.2)) D := g
    exact ⟨F, ρ, S, (GS.expr (σ := σ) (ρ := ρ) (H := H) g).imp fun z ρ1 F1 H1 S1 X1 g1 v hv => g1 σ F1 H1 S1 (Sm.refl F1)⟩
theorem VR.c0 {K : PySem.W.Frag} {σ : St} {ρ : Env} {F H H00 : Hp} {v : V} {z : Val} (h : VR K c σ ρ F H H00 v z) : VR K c σ ρ F H c.H0 v z := by
  cases z with
  | d _ => exact h
  | own _ => exact h
  | fr _ =>
    obtain ⟨p, vs, h1, h2, h3, h4, h5, h6⟩ := h
    exact ⟨p, vs, h1, h2, h3, h4, h4, h6⟩
theorem st_ret (h : PE X e (RE X.K c W0 (evE call lo ie))) : PS X (.Return (some e) pos) (RS X.K c W0 (evS call lo (.ret ie))) :=
  ps_imp (ps_ret h) fun D σ H ⟨F, ρ, S, g⟩ => by
    have g : GS X.K c W0 F ((evE call lo ie ρ).bind fun r => .ok (.ret r.1 r.2)) D := g
    exact ⟨F, ρ, S, (GS.expr (σ := σ) (ρ := ρ) (H := H) g).imp fun z ρ1 F1 H1 S1 X1 g1 v hv => g1 σ F1 H1 S1 (Sm.refl F1) v hv.c0⟩
theorem st_retN : PS X (.Return none pos) (RS X.K c W0 (evS call lo .retN)) := ps_imp ps_retN fun D σ H ⟨F, ρ, S, g⟩ => g σ F H S (Sm.refl F) .non .non
theorem st_if {t : Expr} {it : T} {p q : List Stmt} {ip iq : Ss} (ht : PT X t (RT X.K c W0 (evT call lo it))) (hp : PSs X p (RS X.K c W0 (evSs call lo ip))) (hq : PSs X q (RS X.K c W0 (evSs call lo iq))) : PS X (.If t p q pos) (RS X.K c W0 (evS call lo (.ife it ip iq))) :=
  ps_imp (ps_if ht hp hq) fun D σ H ⟨F, ρ, S, g⟩ => by
    have g : GS X.K c W0 F ((evT call lo it ρ).bind fun r => if r.1 then evSs call lo ip r.2 else evSs call lo iq r.2) D := g
    refine ⟨F, ρ, S, (GS.expr (σ := σ) (ρ := ρ) (H := H) g).imp fun k ρ1 F1 H1 S1 X1 g1 => ?_⟩
    cases k with
    | true => rw [if_pos rfl]; exact ⟨F1, ρ1, S1, g1⟩
    | false => rw [if_neg Bool.false_ne_true]; exact ⟨F1, ρ1, S1, g1⟩

/-! ### a name is given a value -/
theorem alias1_len {ρ ρ' : Env} {z : Val} {d : D} (h : alias1 ρ z = some (d, ρ')) : ρ'.length = ρ.length ∧ ∀ i, (∃ xs, slot ρ' i = .io xs) → ∃ xs, slot ρ i = .io xs := by
  cases z with
  | d x => cases h; exact ⟨rfl, fun _ q => q⟩
  | fr _ => cases h
  | own j =>
    have h : (match slot ρ j with | .fz d => some (d, ρ) | .ow xs => some (.list xs, ρ.set j (.fz (.list xs))) | _ => none) = some (d, ρ') := h
    cases hk : slot ρ j with
    | un => rw [hk] at h; cases h
    | io _ => rw [hk] at h; cases h
    | fz _ => rw [hk] at h; cases h; exact ⟨rfl, fun _ q => q⟩
    | ow ys =>
      rw [hk] at h
      cases h
      refine ⟨List.length_set, fun i ⟨xs, q⟩ => ?_⟩
      rw [slot_set] at q
      split at q
      · cases q
      · exact ⟨xs, q⟩
theorem asg_main {f : Env → Res (Val × Env)} {i : Nat} {keep : Bool} {D : Ends} {σ : St} {F H : Hp} {ρ : Env} (S : SR X.K c F H σ ρ) (g : GS X.K c W0 F ((f ρ).bind fun r => (Res.need (store r.2 i keep r.1)).bind fun ρ1 => .ok (.nx ρ1)) D) :
    RE X.K c W0 f σ H fun x H1 => D.nx (σ.set i (some x)) H1 := by
  refine ⟨F, ρ, S, (GS.expr (σ := σ) (ρ := ρ) (H := H) g).imp fun z ρ1 F1 H1 S1 X1 g1 v hv => ?_⟩
  obtain ⟨ρ2, e1, g1⟩ := g1.need
  have g1 : ∀ σ' F' H', SR X.K c F' H' σ' ρ2 → Sm F1 F' → D.nx σ' H' := g1
  have nio : store ρ1 i keep z = storeV ρ1 i keep z := by
    unfold store at e1 ⊢
    cases hk : slot ρ1 i with
    | io _ => rw [hk] at e1; cases e1
    | un => rfl
    | fz _ => rfl
    | ow _ => rfl
  rw [nio] at e1
  have al : OR X.K F1 σ v z → (match alias1 ρ1 z with | some (d, ρ1) => if i < ρ1.length then some (ρ1.set i (.fz d)) else none | none => none) = some ρ2 → D.nx (σ.set i (some v)) H1 := fun o e => by
    cases ha : alias1 ρ1 z with
    | none => rw [ha] at e; cases e
    | some q =>
      obtain ⟨d, ρ3⟩ := q
      rw [ha] at e
      have e : (if i < ρ3.length then some (ρ3.set i (.fz d)) else none) = some ρ2 := e
      split at e
      · rename_i hl
        cases e
        obtain ⟨F2, S2, X2, dv⟩ := S1.alias1 o ha
        exact g1 _ F2 H1 (S2.storeD hl dv) X2.exF
      · cases e
  cases z with
  | d x => exact al hv e1
  | own j => exact al hv e1
  | fr xs =>
    have e1 : (if i < ρ1.length then some (ρ1.set i (if keep then .ow xs else .fz (.list xs))) else none) = some ρ2 := e1
    split at e1
    · rename_i hl
      cases e1
      obtain ⟨p, vs, rfl, h1, h2, h3, h4, h5, h6⟩ := hv
      cases keep with
      | true => exact g1 _ F1 H1 (S1.put hl ⟨p, vs, rfl, h1, h2, h3, h5, h6⟩) (Sm.refl F1)
      | false =>
        have S2 := S1.take h1 h2 h3 h6
        exact g1 _ _ H1 (S2.storeD hl (.lst (.inl (.inl upd_same)) (h5.mono (Sm.upd h2)))) (Sm.upd h2)
    · cases e1
theorem st_asg {i : Nat} {x : Str} {keep : Bool} {p : Pos} (hN : X.N.Nodup) (hi : X.N[i]? = some x) (hx : Loc X.env.scope x) (hf : X.fn x = true ∨ X.env.scope.names.lookup x = some .local) (h : PE X e (RE X.K c W0 (evE call lo ie))) (hs : swapsWith e (some (.Name x p)) pos.line X.env = pure false) :
    PS X (.Assign [.Name x p] e pos) (RS X.K c W0 (evS call lo (.asg i keep ie))) :=
  ps_imp (ps_set hN hi hx h hs hf) fun D σ H ⟨F, ρ, S, g⟩ => asg_main S g
theorem st_setLc {i : Nat} {x : Str} {keep : Bool} {py spos : Pos} {elt tgE iter : Expr} {tg : Tg} {src : Src} {scope : Scope} {own : List (Str × Nat)} (hc : X.calm = true) (hN : X.N.Nodup) (hy : X.N[i]? = some x) (hyl : X.env.scope.names.lookup x = some .local)
    (hsw : swapsWith (.ListComp elt [⟨tgE, iter, [], 0⟩] scope pos) (some (.Name x py)) spos.line X.env = pure true) (hi : PI X tgE iter (RI X.K c (evSrc call lo src))) (ok : BlkOk X.N X.env.scope scope own)
    (hg : ∀ (s : Shared) (H : Hp) (C : Addr) (cl : List (Str × Addr)) (fp : List Addr), PG (X.blk s H scope (compEnvC scope cl C X.env) fp) tgE (RGt X.K c tg))
    (he : ∀ (s : Shared) (H : Hp) (C : Addr) (cl : List (Str × Addr)) (fp : List Addr), PE (X.blk s H scope (compEnvC scope cl C X.env) fp) elt (RE X.K c W0 (evE call lo ie)))
    (hs : ∀ x, foldedSetIterable iter X.env x = pure x) (htg : ∀ i ∈ tgIdx tg, i ∈ own.map (·.2)) :
    PS X (.Assign [.Name x py] (.ListComp elt [⟨tgE, iter, [], 0⟩] scope pos) spos) (RS X.K c W0 (evS call lo (.asg i keep (.comp ie tg src (own.map (·.2)))))) :=
  ps_imp (ps_setLc hc hN hy hyl hsw hi ok hg (fun _ _ _ _ _ => pts_nil) (fun s H C cl fp => pe_opd (he s H C cl fp)) hs) fun D σ H ⟨F, ρ, S, g⟩ => by
    obtain ⟨F1, ρ1, S1, g1⟩ := asg_main S g
    exact lc_main (tt := tYes) (tf := fun ρ1 => .ok (true, ρ1)) htg (fun σ2 H2 F2 ρ2 Qb S2 g2 => G.here (a := true) g2 S2 .refl) S1 g1
theorem st_setLcIf {i : Nat} {x : Str} {keep : Bool} {py spos : Pos} {elt tgE iter cond : Expr} {it : T} {tg : Tg} {src : Src} {scope : Scope} {own : List (Str × Nat)} (hc : X.calm = true) (hN : X.N.Nodup) (hy : X.N[i]? = some x) (hyl : X.env.scope.names.lookup x = some .local)
    (hsw : swapsWith (.ListComp elt [⟨tgE, iter, [cond], 0⟩] scope pos) (some (.Name x py)) spos.line X.env = pure true) (hi : PI X tgE iter (RI X.K c (evSrc call lo src))) (ok : BlkOk X.N X.env.scope scope own)
    (hg : ∀ (s : Shared) (H : Hp) (C : Addr) (cl : List (Str × Addr)) (fp : List Addr), PG (X.blk s H scope (compEnvC scope cl C X.env) fp) tgE (RGt X.K c tg))
    (ht : ∀ (s : Shared) (H : Hp) (C : Addr) (cl : List (Str × Addr)) (fp : List Addr), PT (X.blk s H scope (compEnvC scope cl C X.env) fp) cond (RT X.K c W0 (evT call lo it)))
    (he : ∀ (s : Shared) (H : Hp) (C : Addr) (cl : List (Str × Addr)) (fp : List Addr), PE (X.blk s H scope (compEnvC scope cl C X.env) fp) elt (RE X.K c W0 (evE call lo ie)))
    (hs : ∀ x, foldedSetIterable iter X.env x = pure x) (htg : ∀ i ∈ tgIdx tg, i ∈ own.map (·.2)) :
    PS X (.Assign [.Name x py] (.ListComp elt [⟨tgE, iter, [cond], 0⟩] scope pos) spos) (RS X.K c W0 (evS call lo (.asg i keep (.compif ie tg src it (own.map (·.2)))))) :=
  ps_imp (ps_setLc hc hN hy hyl hsw hi ok hg (fun s H C cl fp => pts_one (ht s H C cl fp)) (fun s H C cl fp => pe_opd (he s H C cl fp)) hs) fun D σ H ⟨F, ρ, S, g⟩ => by
    obtain ⟨F1, ρ1, S1, g1⟩ := asg_main S g
    exact lc_main (tf := fun ρ1 => evT call lo it ρ1) htg (fun σ2 H2 F2 ρ2 Qb S2 g2 => ⟨F2, ρ2, S2, g2⟩) S1 g1

theorem st_setLc2 {i : Nat} {x : Str} {keep : Bool} {py spos : Pos} {elt tgE iter tgE1 iter1 : Expr} {tg tg1 : Tg} {src src1 : Src} {scope : Scope} {own : List (Str × Nat)} {vs1 : List Nat} (hc : X.calm = true) (hN : X.N.Nodup) (hy : X.N[i]? = some x) (hyl : X.env.scope.names.lookup x = some .local)
    (hsw : swapsWith (.ListComp elt [⟨tgE, iter, [], 0⟩, ⟨tgE1, iter1, [], 0⟩] scope pos) (some (.Name x py)) spos.line X.env = pure true) (hi : PI X tgE iter (RI X.K c (evSrc call lo src))) (ok : BlkOk X.N X.env.scope scope own) (hv : ∀ i ∈ vs1, i ∈ own.map (·.2))
    (hg : ∀ (s : Shared) (H : Hp) (C : Addr) (cl : List (Str × Addr)) (fp : List Addr), PG (X.blk s H scope (compEnvC scope cl C X.env) fp) tgE (RGt X.K c tg))
    (hi1 : ∀ (s : Shared) (H : Hp) (C : Addr) (cl : List (Str × Addr)) (fp : List Addr), PI (X.blk s H scope (compEnvC scope cl C X.env) fp) tgE1 iter1 (RI X.K c (evSrc call lo src1)))
    (hg1 : ∀ (s : Shared) (H : Hp) (C : Addr) (cl : List (Str × Addr)) (fp : List Addr), PG (X.blk s H scope (compEnvC scope cl C X.env) fp) tgE1 (RGt X.K c tg1))
    (he : ∀ (s : Shared) (H : Hp) (C : Addr) (cl : List (Str × Addr)) (fp : List Addr), PE (X.blk s H scope (compEnvC scope cl C X.env) fp) elt (RE X.K c W0 (evE call lo ie)))
    (hs : ∀ x, foldedSetIterable iter X.env x = pure x) (hs1 : ∀ env x, foldedSetIterable iter1 env x = pure x) (htg : ∀ i ∈ tgIdx tg, i ∈ own.map (·.2)) (htg1 : ∀ i ∈ tgIdx tg1, i ∈ vs1) :
    PS X (.Assign [.Name x py] (.ListComp elt [⟨tgE, iter, [], 0⟩, ⟨tgE1, iter1, [], 0⟩] scope pos) spos) (RS X.K c W0 (evS call lo (.asg i keep (.comp2 ie tg src tg1 src1 (own.map (·.2)) vs1)))) :=
  ps_imp (ps_setLc2 hc hN hy hyl hsw hi ok hv hg (fun _ _ _ _ _ => pts_nil) hi1 hg1 (fun _ _ _ _ _ => pts_nil) (fun s H C cl fp => pe_opd (he s H C cl fp)) hs hs1) fun D σ H ⟨F, ρ, S, g⟩ => by
    obtain ⟨F1, ρ1, S1, g1⟩ := asg_main S g
    exact lc2_main (sf1 := fun ρ1 => evSrc call lo src1 ρ1) htg htg1 hv S1 g1

/-! ### a list is changed in place -/
theorem SR.change {K : PySem.W.Frag} {F H : Hp} {σ : St} {ρ ρ' : Env} (S : SR K c F H σ ρ) {i : Nat} {f : List PX.D → Option (List PX.D)} (h : change ρ i f = some ρ') : ∃ a ws xs ys, σ[i]? = some (some (.ref a)) ∧ H a = some (.lst ws) ∧ DenL K F ws xs ∧ f xs = some ys ∧ slotD (slot ρ i) = some (.list xs) ∧
    (∀ us, us.length ≤ sizeLine → DenL K F us ys → SR K c F (upd H a (.lst us)) σ ρ' ∧ Ext σ ρ F H ρ' F (upd H a (.lst us))) := by
  have main : ∀ (s : List PX.D → Slot) (xs : List PX.D), (∀ ys, isOwn (s ys) = true) → slot ρ i = s xs → (f xs).map (fun ys => ρ.set i (s ys)) = some ρ' → (∀ ys zs, s ys = .ow zs → s xs = .ow xs ∧ ys = zs) → (∀ ys zs, s ys = .io zs → s xs = .io xs ∧ ys = zs) → (∀ ys d, s ys ≠ .fz d) → slotD (s xs) = some (.list xs) →
      (∃ a ws, σ[i]? = some (some (.ref a)) ∧ H a = some (.lst ws) ∧ F a = none ∧ DenL K F ws xs ∧ (c.H0 a = none ∨ a ∈ c.io) ∧ (s xs = .ow xs → c.H0 a = none) ∧ (s xs = .io xs → a ∈ c.io)) →
      ∃ a ws xs ys, σ[i]? = some (some (.ref a)) ∧ H a = some (.lst ws) ∧ DenL K F ws xs ∧ f xs = some ys ∧ slotD (slot ρ i) = some (.list xs) ∧ (∀ us, us.length ≤ sizeLine → DenL K F us ys → SR K c F (upd H a (.lst us)) σ ρ' ∧ Ext σ ρ F H ρ' F (upd H a (.lst us))) := by
    intro s xs ho hs hm how hio hfz hsd ⟨a, ws, a1, a2, a3, a4, a5, a6, a7⟩
    have hi : i < ρ.length := slot_lt (by rw [hs]; intro z; have := ho xs; rw [z] at this; cases this)
    cases hf : f xs with
    | none => rw [hf] at hm; cases hm
    | some ys =>
    rw [hf] at hm
    cases hm
    have oi : isOwn (slot ρ i) = true := by rw [hs]; exact ho xs
    have oa : owned σ ρ a := ⟨i, oi, a1⟩
    refine ⟨a, ws, xs, ys, a1, a2, a4, hf, by rw [hs]; exact hsd, fun us hz dl => ⟨⟨by rw [List.length_set]; exact S.len, S.exB, S.dom, fun b o e => ?_, fun b o e n => ?_, fun b hb => ?_, S.hl.updL hz, fun j d e => ?_, fun j zs e => ?_, fun j zs e => ?_, fun j k b h1 h2 e1 e2 => ?_⟩, ⟨Sm.refl F, fun b h => .inl h, fun b o h n => ?_, fun b h => ?_, fun b ⟨j, h1, h2⟩ => ?_⟩⟩⟩
    · rw [upd_ne fun z => by rw [z, a3] at e; cases e]; exact S.exF b o e
    · rw [upd_ne fun z => ?_]
      · exact S.keep b o e n
      · rcases a5 with q | q
        · rw [z, q] at e; cases e
        · exact n (z ▸ q)
    · obtain ⟨m, vs, e⟩ := S.iol b hb
      refine ⟨m, ?_⟩
      by_cases q : b = a
      · subst q; exact ⟨us, upd_same⟩
      · exact ⟨vs, by rw [upd_ne q]; exact e⟩
    · by_cases q : j = i
      · subst q; rw [slot_set_eq hi] at e; exact absurd e (hfz ys d)
      · rw [slot_set_ne (Ne.symm q)] at e; exact S.fz j d e
    · by_cases q : j = i
      · subst q
        rw [slot_set_eq hi] at e
        obtain ⟨b1, rfl⟩ := how ys zs e
        exact ⟨a, us, a1, upd_same, a3, a6 b1, dl⟩
      · rw [slot_set_ne (Ne.symm q)] at e
        obtain ⟨b, vs, b1, b2, b3⟩ := S.ow j zs e
        refine ⟨b, vs, b1, ?_, b3⟩
        rw [upd_ne fun z => q (S.sep j i a (by rw [e]; rfl) oi (by rw [← z]; exact b1) a1)]
        exact b2
    · by_cases q : j = i
      · subst q
        rw [slot_set_eq hi] at e
        obtain ⟨b1, rfl⟩ := hio ys zs e
        exact ⟨a, us, a1, upd_same, a3, a7 b1, dl⟩
      · rw [slot_set_ne (Ne.symm q)] at e
        obtain ⟨b, vs, b1, b2, b3⟩ := S.io j zs e
        refine ⟨b, vs, b1, ?_, b3⟩
        rw [upd_ne fun z => q (S.sep j i a (by rw [e]; rfl) oi (by rw [← z]; exact b1) a1)]
        exact b2
    · have own' : ∀ j, isOwn (slot (ρ.set i (s ys)) j) = true → isOwn (slot ρ j) = true := fun j h => by
        by_cases q : j = i
        · subst q; exact oi
        · rwa [slot_set_ne (Ne.symm q)] at h
      exact S.sep j k b (own' j h1) (own' k h2) e1 e2
    · rw [upd_ne fun z => n (by rw [z]; exact oa)]; exact h
    · by_cases q : b = a
      · subst q; rw [upd_same] at h; cases h
      · rw [upd_ne q] at h; exact h
    · by_cases q : j = i
      · subst q; exact ⟨j, oi, h2⟩
      · rw [slot_set_ne (Ne.symm q)] at h1; exact ⟨j, h1, h2⟩
  unfold PX.change at h
  cases hk : slot ρ i with
  | un => rw [hk] at h; cases h
  | fz _ => rw [hk] at h; cases h
  | ow xs =>
    rw [hk] at h
    obtain ⟨a, ws, a1, a2, a3, a4, a5⟩ := S.ow i xs hk
    have := main Slot.ow xs (fun _ => rfl) hk h (fun ys zs e => ⟨rfl, by cases e; rfl⟩) (fun ys zs e => by cases e) (fun ys d e => by cases e) rfl ⟨a, ws, a1, a2, a3, a5, .inl a4, (fun _ => a4), fun e => by cases e⟩
    rwa [hk] at this
  | io xs =>
    rw [hk] at h
    obtain ⟨a, ws, a1, a2, a3, a4, a5⟩ := S.io i xs hk
    have := main Slot.io xs (fun _ => rfl) hk h (fun ys zs e => by cases e) (fun ys zs e => ⟨rfl, by cases e; rfl⟩) (fun ys d e => by cases e) rfl ⟨a, ws, a1, a2, a3, a5, .inr a4, (fun e => by cases e), fun _ => a4⟩
    rwa [hk] at this
theorem setAt_some {j : Int} {d : PX.D} {xs ys : List PX.D} (h : setAt j d xs = some ys) : ∃ k, ixN xs.length j = some k ∧ ys = xs.set k d := by
  unfold setAt at h
  cases hk : ixN xs.length j with
  | none => rw [hk] at h; cases h
  | some k => rw [hk] at h; cases h; exact ⟨k, rfl, rfl⟩
def isSlice : Expr → Bool
  | .Slice _ _ _ _ => true
  | _ => false
theorem plain_ix {b : Expr} (h : isSlice b = false) : PlainIx b := by
  cases b <;> first | exact fun _ _ => rfl | cases h
theorem plain_assign {o i : Expr} {env : PySem.Env} (h : isSlice i = false) (v : Value) : assign (.Subscript o i pos) env v = (do
      let ov ← holding [v] (eval o env)
      let iv ← holding [v, ov] (eval i env)
      standAt pos
      holding [v, ov, iv] (setItem ov iv v)
      release [v, ov, iv] []) := by
  cases i <;> first | rfl | cases h
theorem plain_aug {i : Expr} (h : isSlice i = false) (ov iv new : Value) : augStore i ov iv new = (do holding [new, ov, iv] (setItem ov iv new); release [new, ov, iv] []; pure .next) := by
  cases i <;> first | rfl | cases h
/-- x[i] = e -/
theorem st_setix {o ix : Expr} {i : Nat} {x : Str} {iix : E} {p q : Pos} (hN : X.N[i]? = some x) (hv : Vis X.env.scope x) (hd : (x == ("__debug__" : Str)) = false) (hcd : (x == ("__classdict__" : Str)) = false) (hsl : isSlice ix = false)
    (h : PE X e (RE X.K c W0 (evE call lo ie))) (hi : PE X ix (RE X.K c W0 (evE call lo iix))) (hs : swapsWithSole [.Subscript (.Name x q) ix p] e pos.line X.env = pure false) (hw : swappedStores [.Subscript (.Name x q) ix p] e X.env = pure none) :
    PS X (.Assign [.Subscript (.Name x q) ix p] e pos) (RS X.K c W0 (evS call lo (.setix i iix ie))) :=
  ps_imp (ps_asg (pe_opd h) (pg_sub (pe_var hN hv hd hcd) (pe_opd hi) set_list (plain_assign hsl)) hs hw rfl) fun D σ H ⟨F, ρ, S, g⟩ => by
    have g : GS X.K c W0 F ((opd (evE call lo ie ρ)).bind fun r => (Res.need (alias1 r.2 r.1)).bind fun q => if isOwn (slot q.2 i) then (evE call lo iix q.2).bind fun l => (Res.need (asInt l.1)).bind fun j => (Res.need (change l.2 i (setAt j q.1))).bind fun ρ1 => .ok (.nx ρ1) else .bad) D := g
    refine ⟨F, ρ, S, (GS.expr (σ := σ) (ρ := ρ) (H := H) g).imp fun z ρ1 F1 H1 S1 X1 g1 v o1 => ?_⟩
    obtain ⟨q, e1, g1⟩ := g1.need
    obtain ⟨d, ρ2⟩ := q
    obtain ⟨F2, S2, X2, dv⟩ := S1.alias1 o1 e1
    have g2 := GS.sm g1 X2.exF
    obtain ⟨hown, g2⟩ := GS.ite g2
    obtain ⟨a, ha⟩ := S2.place hown
    refine ⟨.ref a, ha, F2, ρ2, S2, ?_⟩
    have g3 := GS.expr (σ := σ) (ρ := ρ2) (H := H1) g2
    refine (G.opdI (f := fun j ρ3 => (Res.need (change ρ3 i (setAt j d))).bind fun ρ1 => .ok (.nx ρ1)) g3).imp fun z3 ρ3 F3 H3 S3 X3 g3 y o3 => ?_
    obtain ⟨j, rfl, g4⟩ := g3 y o3
    obtain ⟨ρ4, e4, g4⟩ := g4.need
    obtain ⟨a', ws, xs, ys, a1, a2, a3, a4, _, a5⟩ := S3.change e4
    rw [ha] at a1
    cases a1
    obtain ⟨k, k1, rfl⟩ := setAt_some a4
    have hl : (ws.set k v).length ≤ sizeLine := by rw [List.length_set]; exact S3.hl.1 a ws (.inl (.inl a2))
    obtain ⟨S5, X5⟩ := a5 (ws.set k v) hl (DenL.set (dv.mono X3.exF) k a3)
    exact ⟨a, ws, j, k, rfl, rfl, a2, by rw [a3.length]; exact k1, g4 σ F3 _ S5 (Sm.refl F3)⟩

/-- x[i], x[j] = e -/
theorem st_swapix {ix ix2 : Expr} {i : Nat} {x : Str} {iix iix2 : E} {p p2 p3 q q2 : Pos} {kt : Nat} (hc : X.calm = true) (hN : X.N[i]? = some x) (hv : Vis X.env.scope x) (hd : (x == ("__debug__" : Str)) = false) (hcd : (x == ("__classdict__" : Str)) = false) (hsl : isSlice ix = false) (hsl2 : isSlice ix2 = false)
    (h : PE X e (RE X.K c W0 (evE call lo ie))) (hi : PE X ix (RE X.K c W0 (evE call lo iix))) (hi2 : PE X ix2 (RE X.K c W0 (evE call lo iix2)))
    (hs : swapsWithSole [.Tuple [.Subscript (.Name x q) ix p, .Subscript (.Name x q2) ix2 p2] kt p3] e pos.line X.env = pure false) (hw : swappedStores [.Tuple [.Subscript (.Name x q) ix p, .Subscript (.Name x q2) ix2 p2] kt p3] e X.env = pure none) :
    PS X (.Assign [.Tuple [.Subscript (.Name x q) ix p, .Subscript (.Name x q2) ix2 p2] kt p3] e pos) (RS X.K c W0 (evS call lo (.swapix i iix iix2 ie))) :=
  ps_imp (ps_asg (pe_opd h) (pg_tup (n := 2) hc (pgs_cons (pg_sub (pe_var hN hv hd hcd) (pe_opd hi) set_list (plain_assign hsl)) (pgs_cons (pg_sub (pe_var hN hv hd hcd) (pe_opd hi2) set_list (plain_assign hsl2)) pgs_nil rfl) rfl) rfl rfl) hs hw rfl) fun D σ H ⟨F, ρ, S, g⟩ => by
    have g : GS X.K c W0 F ((opd (evE call lo ie ρ)).bind fun r => (Res.need (alias1 r.2 r.1)).bind fun q => (Res.need (pairOf q.1)).bind fun uv => if isOwn (slot q.2 i) then (evE call lo iix q.2).bind fun l => (Res.need (asInt l.1)).bind fun j =>
      (Res.need (change l.2 i (setAt j uv.1))).bind fun ρ1 => (evE call lo iix2 ρ1).bind fun l2 => (Res.need (asInt l2.1)).bind fun j2 => (Res.need (change l2.2 i (setAt j2 uv.2))).bind fun ρ2 => .ok (.nx ρ2) else .bad) D := g
    refine ⟨F, ρ, S, (GS.expr (σ := σ) (ρ := ρ) (H := H) g).imp fun z ρ1 F1 H1 S1 X1 g1 v o1 => ?_⟩
    obtain ⟨q, e1, g1⟩ := g1.need
    obtain ⟨d, ρ2⟩ := q
    obtain ⟨F2, S2, X2, dv⟩ := S1.alias1 o1 e1
    obtain ⟨uv, e2, g1⟩ := g1.need
    have g2 := GS.sm g1 X2.exF
    obtain ⟨hown, g2⟩ := GS.ite g2
    obtain ⟨a, ha⟩ := S2.place hown
    have ed : d = .tuple [uv.1, uv.2] := by
      have e2 : pairOf d = some uv := e2
      unfold pairOf at e2
      split at e2
      · cases e2
        rfl
      · cases e2
    subst ed
    obtain ⟨at_, vs, rfl, t1, t2⟩ := dv.tuple
    cases t2 with
    | @cons v1 d1 vs ds b1 t2 =>
    cases t2 with
    | @cons v2 d2 vs ds b2 t2 =>
    cases t2
    refine ⟨at_, [v1, v2], rfl, S2.exF.st t1, rfl, v1, [v2], rfl, .ref a, ha, F2, ρ2, S2, ?_⟩
    have g3 := GS.expr (σ := σ) (ρ := ρ2) (H := H1) g2
    refine (G.opdI (f := fun j ρ3 => (Res.need (change ρ3 i (setAt j uv.1))).bind fun ρ1 => (evE call lo iix2 ρ1).bind fun l2 => (Res.need (asInt l2.1)).bind fun j2 => (Res.need (change l2.2 i (setAt j2 uv.2))).bind fun ρ2 => .ok (.nx ρ2)) g3).imp fun z3 ρ3 F3 H3 S3 X3 g3 y o3 => ?_
    obtain ⟨j, rfl, g4⟩ := g3 y o3
    obtain ⟨ρ4, e4, g4⟩ := g4.need
    obtain ⟨a', ws, xs, ys, a1, a2, a3, a4, _, a5⟩ := S3.change e4
    rw [ha] at a1
    cases a1
    obtain ⟨k, k1, rfl⟩ := setAt_some a4
    have hl : (ws.set k v1).length ≤ sizeLine := by rw [List.length_set]; exact S3.hl.1 a ws (.inl (.inl a2))
    obtain ⟨S5, X5⟩ := a5 (ws.set k v1) hl (DenL.set (b1.mono X3.exF) k a3)
    refine ⟨a, ws, j, k, rfl, rfl, a2, by rw [a3.length]; exact k1, v2, [], rfl, .ref a, ha, F3, ρ4, S5, ?_⟩
    have g5 := GS.expr (σ := σ) (ρ := ρ4) (H := upd H3 a (.lst (ws.set k v1))) g4
    refine (G.opdI (f := fun j ρ3 => (Res.need (change ρ3 i (setAt j uv.2))).bind fun ρ2 => .ok (.nx ρ2)) g5).imp fun z6 ρ6 F6 H6 S6 X6 g6 y6 o6 => ?_
    obtain ⟨j2, rfl, g7⟩ := g6 y6 o6
    obtain ⟨ρ7, e7, g7⟩ := g7.need
    obtain ⟨a'', ws2, xs2, ys2, c1, c2, c3, c4, _, c5⟩ := S6.change e7
    rw [ha] at c1
    cases c1
    obtain ⟨k2, k3, rfl⟩ := setAt_some c4
    have hl2 : (ws2.set k2 v2).length ≤ sizeLine := by rw [List.length_set]; exact S6.hl.1 a ws2 (.inl (.inl c2))
    obtain ⟨S8, X8⟩ := c5 (ws2.set k2 v2) hl2 (DenL.set (b2.mono (X3.exF.trans X6.exF)) k2 c3)
    exact ⟨a, ws2, j2, k2, rfl, rfl, c2, by rw [c3.length]; exact k3, rfl, g7 σ F6 _ S8 (Sm.refl F6)⟩

/-! ### op= -/
def rAug : Operator → TIp
  | .Add => fun x y H Q => ∃ i j, x = .int i ∧ y = .int j ∧ Q (.int (i + j)) H
  | .Sub => fun x y H Q => ∃ i j, x = .int i ∧ y = .int j ∧ Q (.int (i - j)) H
  | .Mult => rI CMul fun i j => .int (i * j)
  | _ => fun _ _ _ _ => False
theorem aug_ok (op : Operator) : PIp X op (rAug op) := by
  cases op <;> first
    | exact ip_add
    | exact ip_sub
    | exact fun pins s σ H x y v u Q I r1 r2 h => iop_mul pins s σ H x y v u Q I r1 r2 h
    | exact fun _ _ _ _ _ _ _ _ _ _ _ _ h => h.elim
theorem augV_ne (op : Operator) (x y : PX.D) : ∀ (cn : String) (v : PX.D) (ρ' : Env), augV op x y ≠ .ex cn v ρ' := by
  intro cn v ρ' h
  unfold augV at h
  split at h <;> first | cases h | (split at h <;> cases h)
theorem augI_ne (op : Operator) (x y : PX.D) : ∀ (cn : String) (v : PX.D) (ρ' : Env), augI op x y ≠ .ex cn v ρ' := by
  intro cn v ρ' h
  unfold augI at h
  split at h <;> cases h
theorem augV_int {op : Operator} {x y : PX.D} {z : Val} (h : augV op x y = .ok z) : ∃ i j k, x = .int i ∧ y = .int j ∧ z = .d (.int k) ∧ ∀ H Q, Q (V.int k) H → rAug op (.int i) (.int j) H Q := by
  unfold augV at h
  split at h
  · cases h; exact ⟨_, _, _, rfl, rfl, rfl, fun H Q q => ⟨_, _, rfl, rfl, q⟩⟩
  · cases h; exact ⟨_, _, _, rfl, rfl, rfl, fun H Q q => ⟨_, _, rfl, rfl, q⟩⟩
  · split at h
    · rename_i hf
      cases h; exact ⟨_, _, _, rfl, rfl, rfl, fun H Q q => ⟨_, _, rfl, rfl, hf, q⟩⟩
    · cases h
  · cases h
theorem augI_int {op : Operator} {x y : PX.D} {z : PX.D} (h : augI op x y = .ok z) : ∃ i j k, x = .int i ∧ y = .int j ∧ z = .int k ∧ ∀ H Q, Q (V.int k) H → rAug op (.int i) (.int j) H Q := by
  unfold augI at h
  split at h
  · cases h; exact ⟨_, _, _, rfl, rfl, rfl, fun H Q q => ⟨_, _, rfl, rfl, q⟩⟩
  · cases h; exact ⟨_, _, _, rfl, rfl, rfl, fun H Q q => ⟨_, _, rfl, rfl, q⟩⟩
  · cases h
/-- x op= e -/
theorem st_aug {i : Nat} {x : Str} {op : Operator} {p : Pos} (hN : X.N.Nodup) (hi : X.N[i]? = some x) (hx : Loc X.env.scope x) (hf : X.fn x = true ∨ X.env.scope.names.lookup x = some .local) (h : PE X e (RE X.K c W0 (evE call lo ie))) :
    PS X (.AugAssign (.Name x p) op e pos) (RS X.K c W0 (evS call lo (.aug i op ie))) :=
  ps_imp (ps_aug hN hi hx (pe_opd h) (aug_ok op) hf) fun D σ H ⟨F, ρ, S, g⟩ => by
    have g : GS X.K c W0 F (match slot ρ i with
      | .fz x => (opd (evE call lo ie ρ)).bind fun r => (Res.need (look r.2 r.1)).bind fun y => (augV op x y).bind fun z => (Res.need (store r.2 i false z)).bind fun ρ1 => .ok (.nx ρ1)
      | _ => .bad) D := g
    cases hk : slot ρ i with
    | un => rw [hk] at g; exact g.elim
    | ow _ => rw [hk] at g; exact g.elim
    | io _ => rw [hk] at g; exact g.elim
    | fz d =>
      rw [hk] at g
      obtain ⟨v, e1, dv⟩ := S.fz i d hk
      refine ⟨v, e1, F, ρ, S, (GS.expr (σ := σ) (ρ := ρ) (H := H) g).imp fun z ρ1 F1 H1 S1 X1 g1 y o1 => ?_⟩
      obtain ⟨dy, e2, g1⟩ := g1.need
      obtain ⟨z2, e3, g1⟩ := GS.pure (augV_ne op d dy) g1
      obtain ⟨a, b, k, rfl, rfl, rfl, hr⟩ := augV_int e3
      rw [Den.toInt dv, S1.lookI o1 e2]
      refine hr H1 _ ?_
      obtain ⟨ρ2, e4, g1⟩ := g1.need
      have g1 : ∀ σ' F' H', SR X.K c F' H' σ' ρ2 → Sm F1 F' → D.nx σ' H' := g1
      have fin : (if i < ρ1.length then some (ρ1.set i (.fz (.int k))) else none) = some ρ2 → D.nx (σ.set i (some (.int k))) H1 := fun e => by
        split at e
        · rename_i hl
          cases e
          exact g1 _ F1 H1 (S1.storeD hl (.int k)) (Sm.refl F1)
        · cases e
      unfold store at e4
      cases hk2 : slot ρ1 i with
      | io _ => rw [hk2] at e4; cases e4
      | un => rw [hk2] at e4; exact fin e4
      | fz _ => rw [hk2] at e4; exact fin e4
      | ow _ => rw [hk2] at e4; exact fin e4
/-- an item of a list, by values -/
theorem get_list : PGet X (rIxL X.K) := by
  intro pins s σ H x y v u Q I rx ry h
  obtain ⟨p, xs, i, z, rfl, rfl, hq, he, q⟩ := h
  cases rx
  obtain ⟨t, rfl⟩ := ry
  obtain ⟨its, r, pl, hz⟩ := I.list hq
  obtain ⟨j, h1, h2, h3, h4, h5⟩ := atI_get he
  obtain ⟨w, ew, rw'⟩ := r.get h2
  have hl := r.length
  have hn := line63
  have fin : EP X pins σ Q w s := ⟨z, H, I, rw', q⟩
  by_cases h0 : 0 ≤ i
  · have hj : i.toNat = j := by
      rw [seqIndex_of h0 h5] at h1
      exact Option.some.inj h1
    exact wpAny_getItem_list pl.isList h0 (by omega) (by rw [hj]; simpa using ew) fin
  · have hj : (i + (its.toArray.size : Int)).toNat = j := by
      rw [seqIndex_neg (by omega) h4] at h1
      rw [List.size_toArray, ← hl]
      exact Option.some.inj h1
    exact wpAny_getItem_list_neg pl.isList (by omega) (by rw [List.size_toArray] <;> omega) (by omega) (by rw [hj]; simpa using ew) fin
/-- x[i] op= e -/
theorem st_augix {o ix : Expr} {i : Nat} {x : Str} {iix : E} {op : Operator} {p q : Pos} (hN : X.N[i]? = some x) (hv : Vis X.env.scope x) (hd : (x == ("__debug__" : Str)) = false) (hcd : (x == ("__classdict__" : Str)) = false) (hsl : isSlice ix = false)
    (h : PE X e (RE X.K c W0 (evE call lo ie))) (hi : PE X ix (RE X.K c W0 (evE call lo iix))) : PS X (.AugAssign (.Subscript (.Name x q) ix p) op e pos) (RS X.K c W0 (evS call lo (.augix i iix op ie))) :=
  ps_imp (ps_augS (pe_var hN hv hd hcd) (pe_opd hi) get_list (pe_opd h) (aug_ok op) set_list (plain_aug hsl)) fun D σ H ⟨F, ρ, S, g⟩ => by
    have g : GS X.K c W0 F (if isOwn (slot ρ i) then (evE call lo iix ρ).bind fun l => (Res.need (asInt l.1)).bind fun j => (Res.need (ixL (slot l.2 i) j)).bind fun x =>
      (opd (evE call lo ie l.2)).bind fun r => (Res.need (look r.2 r.1)).bind fun y => (augI op x y).bind fun d =>
      (Res.need (change r.2 i (setAt j d))).bind fun ρ1 => .ok (.nx ρ1) else .bad) D := g
    obtain ⟨hown, g⟩ := GS.ite g
    obtain ⟨a, ha⟩ := S.place hown
    refine ⟨.ref a, ha, F, ρ, S, ?_⟩
    have g1 := GS.expr (σ := σ) (ρ := ρ) (H := H) g
    refine (G.opdI (f := fun j ρ3 => (Res.need (ixL (slot ρ3 i) j)).bind fun x => (opd (evE call lo ie ρ3)).bind fun r => (Res.need (look r.2 r.1)).bind fun y => (augI op x y).bind fun d => (Res.need (change r.2 i (setAt j d))).bind fun ρ1 => .ok (.nx ρ1)) g1).imp fun z1 ρ1 F1 H1 S1 X1 g1 y o1 => ?_
    obtain ⟨j, rfl, g2⟩ := g1 y o1
    obtain ⟨d, e2, g2⟩ := g2.need
    obtain ⟨ws, xs, b2, b3, b4, b5⟩ := S1.item ha e2
    obtain ⟨w, w1, w2⟩ := b3.at_ b4
    refine ⟨a, ws, j, w, rfl, rfl, .inl (.inl b2), w1, ?_⟩
    refine ⟨F1, ρ1, S1, (GS.expr (σ := σ) (ρ := ρ1) (H := H1) g2).imp fun z2 ρ2 F2 H2 S2 X2 g3 u o2 => ?_⟩
    obtain ⟨dy, e3, g3⟩ := g3.need
    obtain ⟨d2, e4, g3⟩ := GS.pure (augI_ne op d dy) g3
    obtain ⟨m, m2, k, rfl, rfl, rfl, hr⟩ := augI_int e4
    rw [Den.toInt w2, S2.lookI o2 e3]
    refine hr H2 _ ?_
    obtain ⟨ρ4, e5, g4⟩ := g3.need
    obtain ⟨a', ws', xs', ys, a1, a2, a3, a4, _, a5⟩ := S2.change e5
    rw [ha] at a1
    cases a1
    obtain ⟨l, l1, rfl⟩ := setAt_some a4
    have hl : (ws'.set l (.int k)).length ≤ sizeLine := by rw [List.length_set]; exact S2.hl.1 a ws' (.inl (.inl a2))
    obtain ⟨S5, X5⟩ := a5 (ws'.set l (.int k)) hl (DenL.set (.int k) l a3)
    exact ⟨a, ws', j, l, rfl, rfl, a2, by rw [a3.length]; exact l1, g4 σ F2 _ S5 (Sm.refl F2)⟩

/-! ### for -/
theorem st_for {tgE iter : Expr} {tg : Tg} {src : Src} {body : List Stmt} {ib : Ss} (hp : PassesOwn (model X.prog X.w) X.A X.env X.xe) (hc : X.calm = true) (hi : PI X tgE iter (RI X.K c (evSrc call lo src))) (hg : PG X tgE (RGt X.K c tg))
    (hb : PSs X body (RS X.K c W0 (evSs call lo ib))) (hs : ∀ x, foldedSetIterable iter X.env x = pure x) : PS X (.For tgE iter body [] pos) (RS X.K c W0 (evS call lo (.for_ tg src ib))) :=
  ps_imp (ps_for hp hc hi hg hb hs) fun D σ H ⟨F, ρ, S, g⟩ => by
    have g : GS X.K c W0 F ((evSrc call lo src ρ).bind fun r => forTurns tg (fun ρ1 => evSs call lo ib ρ1) r.1 r.2) D := g
    refine ⟨F, ρ, S, (GS.expr (σ := σ) (ρ := ρ) (H := H) g).imp fun ds ρ1 F1 H1 S1 X1 g1 J wk hlen => ?_⟩
    let Iv : Nat → St → Hp → Prop := fun i σi Hi => i ≤ ds.length ∧ ∃ Fi ρi, SR X.K c Fi Hi σi ρi ∧ Sm F1 Fi ∧ GS X.K c W0 Fi (forTurns tg (fun ρ1 => evSs call lo ib ρ1) (ds.drop i) ρi) D
    refine ⟨fun i m σi Hi => m = ds.length - i ∧ Iv i σi Hi, ⟨ds.length, by simp, Nat.zero_le _, F1, ρ1, S1, Sm.refl F1, g1⟩, ?_⟩
    rintro i m σi Hi ⟨rfl, hi, Fi, ρi, Si, ei, gi⟩
    obtain ⟨wst, wgo⟩ := wk Fi Hi σi ρi Si ei
    by_cases hlt : i < ds.length
    · refine .inr ?_
      obtain ⟨go, yl⟩ := wgo i ds[i] (List.getElem?_eq_getElem hlt)
      refine ⟨go, Iv (i + 1), fun σ' H' h' => ⟨ds.length - (i + 1), by omega, rfl, h'⟩, fun x H2 hy => ?_⟩
      obtain ⟨F2, S2, X2, dx⟩ := yl x H2 hy
      rw [List.drop_eq_getElem_cons hlt] at gi
      have gi : GS X.K c W0 Fi ((Res.need (storeTg ρi tg ds[i])).bind fun ρ1 => (evSs call lo ib ρ1).bind fun o => match o with
        | .nx ρ2 => forTurns tg (fun ρ1 => evSs call lo ib ρ1) (ds.drop (i + 1)) ρ2
        | .ct ρ2 => forTurns tg (fun ρ1 => evSs call lo ib ρ1) (ds.drop (i + 1)) ρ2
        | .bk ρ2 => .ok (.nx ρ2)
        | .ret v ρ2 => .ok (.ret v ρ2)) D := gi
      obtain ⟨ρ2, e2, gi⟩ := gi.need
      refine ⟨F2, ρi, ds[i], ρ2, S2, dx, e2, fun σ2 S3 _ => ⟨F2, ρ2, S3, ?_⟩⟩
      have e12 : Sm F1 F2 := ei.trans X2.exF
      have gi := GS.sm gi X2.exF
      revert gi
      cases evSs call lo ib ρ2 with
      | bad => exact fun q => q
      | ex _ _ _ => exact fun q => q
      | ok o =>
        intro gi σ' F' H' S' e'
        cases o with
        | nx ρ3 => exact ⟨by omega, F', ρ3, S', e12.trans e', GS.sm (r := forTurns tg (fun ρ1 => evSs call lo ib ρ1) (ds.drop (i + 1)) ρ3) gi e'⟩
        | ct ρ3 => exact ⟨by omega, F', ρ3, S', e12.trans e', GS.sm (r := forTurns tg (fun ρ1 => evSs call lo ib ρ1) (ds.drop (i + 1)) ρ3) gi e'⟩
        | bk ρ3 => exact gi σ' F' H' S' e'
        | ret v ρ3 => exact gi σ' F' H' S' e'
    · have e : i = ds.length := by omega
      subst e
      rw [List.drop_length] at gi
      exact .inl ⟨wst _ (Nat.le_refl _), gi σi Fi Hi Si (Sm.refl Fi)⟩
end
end PX
/-! PX, part m: chains, tests of None, several targets, while, t[::-1]. -/
namespace PX
open PySem PySem.Spec PyProof.Rows L2
section
variable {X : Cx} {c : FC} {pos : Pos} {P : Prog} {n : Nat} {kws : String → List (Nat × List String × List Nat)} {N : List Str} {sc : Scope} {call : CallT} {lo : String → Option (List Nat)} {e a b d tg : Expr} {ie ia ib id' : E}

/-! ### a value that is a bool, as a test -/
theorem bool_val {f : Env → Res (Val × Env)} (hb : ∀ ρ z ρ1, f ρ = .ok (z, ρ1) → ∃ k, z = .d (.bool k)) {σ : St} {H : Hp} {Q : Bool → Hp → Prop}
    (h : RT X.K c W0 (fun ρ => (opd (f ρ)).bind fun r => (Res.need (look r.2 r.1)).bind fun x => (truthD x).bind fun b => .ok (b, r.2)) σ H Q) : RE X.K c W0 f σ H fun x H1 => ∃ k, x = .bl k ∧ Q k H1 := by
  obtain ⟨F, ρ, S, g⟩ := h
  refine ⟨F, ρ, S, ?_⟩
  have hb := hb ρ
  have g : G X.K c W0 σ ρ F H ((opd (f ρ)).bind fun r => (Res.need (look r.2 r.1)).bind fun x => (truthD x).bind fun b => .ok (b, r.2)) (fun b ρ' F' H' => Q b H') := g
  unfold opd at g
  revert g hb
  cases f ρ with
  | bad => exact fun _ g => g
  | ex _ _ _ => exact fun _ g => g
  | ok r =>
    intro hb g F1 H1 S1 X1 v hv
    obtain ⟨z, ρ1⟩ := r
    obtain ⟨k, ek⟩ := hb z ρ1 rfl
    subst ek
    exact ⟨k, Den.toBl hv, g F1 H1 S1 X1⟩
theorem one_bool {r : Res (Val × Env)} {f : D → Bool} {z : Val} {ρ1 : Env} (h : oneD r (fun x => .ok (.d (.bool (f x)))) = .ok (z, ρ1)) : ∃ k, z = .d (.bool k) := by
  unfold oneD at h
  revert h
  cases opd r with
  | bad => intro h; cases h
  | ex _ _ _ => intro h; cases h
  | ok q =>
    show ((Res.need (look q.2 q.1)).bind _) = _ → _
    cases look q.2 q.1 with
    | none => intro h; cases h
    | some x => intro h; cases h; exact ⟨_, rfl⟩
theorem t_isN {j : Nat} {p : Pos} (ha : PE X a (RE X.K c W0 (evE call lo ia))) : PT X (.Compare a [.Is] [.Constant .none j p] pos) (RT X.K c W0 (evT call lo (.val (.isN ia)))) :=
  pt_imp (pt_cmp (pc_isN (pe_opd ha)) rfl) fun σ H Q h => one_op isN_op ok_ne (bool_val (f := evE call lo (.isN ia)) (fun ρ z ρ1 h => one_bool h) h)
theorem t_notN {j : Nat} {p : Pos} (ha : PE X a (RE X.K c W0 (evE call lo ia))) : PT X (.Compare a [.IsNot] [.Constant .none j p] pos) (RT X.K c W0 (evT call lo (.val (.notN ia)))) :=
  pt_imp (pt_cmp (pc_notN (pe_opd ha)) rfl) fun σ H Q h => one_op notN_op ok_ne (bool_val (f := evE call lo (.notN ia)) (fun ρ z ρ1 h => one_bool h) h)

/-! ### chains -/
theorem G.fwd {α : Type} {K : PySem.W.Frag} {c : FC} {σ : St} {ρ : Env} {F H F1 H1 : Hp} {r : Res (α × Env)} {k : α → Env → Hp → Hp → Prop} (g : G K c W0 σ ρ F H r k) (e : Ext σ ρ F H ρ F1 H1) : G K c W0 σ ρ F1 H1 r k := by
  cases r with
  | ok q => exact fun F2 H2 S2 X2 => g F2 H2 S2 (e.trans X2)
  | ex cn v ρ' => exact fun F2 H2 S2 X2 => g F2 H2 S2 (e.trans X2)
  | bad => exact g
theorem chain_main {op op2 : CmpOp} {ic : E} {σ : St} {H : Hp} {Q : VK} (h : RE X.K c W0 (evE call lo (.chain op op2 ia ib ic)) σ H Q) :
    tChain (rCmp X.K op) (rCmp X.K op2) (RO X.K c W0 (evE call lo ia)) (RO X.K c W0 (evE call lo ib)) (RO X.K c W0 (evE call lo ic)) σ H Q := by
  obtain ⟨F, ρ, S, g⟩ := h
  have g : G X.K c W0 σ ρ F H ((opd (evE call lo ia ρ)).bind fun x => (opd (evE call lo ib x.2)).bind fun y => (Res.need (look y.2 x.1)).bind fun u => (Res.need (look y.2 y.1)).bind fun v => (cmpV op u v).bind fun k =>
      if k then (opd (evE call lo ic y.2)).bind fun z => (Res.need (look z.2 y.1)).bind fun v => (Res.need (look z.2 z.1)).bind fun w => (cmpV op2 v w).bind fun k => .ok (.d (.bool k), z.2) else .ok (.d (.bool false), y.2)) (fun z ρ' F' H' => ∀ v, VR X.K c σ ρ' F' H' H v z → Q v H') := g
  refine ⟨F, ρ, S, g.bind.imp fun x ρ1 F1 H1 S1 X1 g1 v o1 => ?_⟩
  refine ⟨F1, ρ1, S1, g1.bind.imp fun y ρ2 F2 H2 S2 X2 g2 w o2 => ?_⟩
  obtain ⟨dx, e1, g2⟩ := g2.need
  obtain ⟨dy, e2, g2⟩ := g2.need
  obtain ⟨k, e3, g2⟩ := g2.pure (cmpV_ne op dx dy)
  refine cmp_op (c := c) op S2 (o1.mono X2.exF) o2 e1 e2 (y := .d (.bool k)) (by show (cmpV op dx dy).bind _ = _; rw [e3]; rfl) fun F3 H3 v3 S3 X3 hv => ⟨k, Den.toBl hv, ?_⟩
  cases k with
  | false =>
    rw [if_neg Bool.false_ne_true] at g2 ⊢
    exact g2.here S3 X3 _ (.bl false)
  | true =>
    rw [if_pos rfl] at g2 ⊢
    have g3 := G.fwd g2 X3
    refine ⟨F3, ρ2, S3, g3.bind.imp fun z ρ4 F4 H4 S4 X4 g4 w' o4 => ?_⟩
    obtain ⟨dy', e4, g4⟩ := g4.need
    obtain ⟨dz, e5, g4⟩ := g4.need
    obtain ⟨k', e6, g4⟩ := g4.pure (cmpV_ne op2 dy' dz)
    exact cmp_op (c := c) op2 S4 (o2.mono (X3.exF.trans X4.exF)) o4 e4 e5 (y := .d (.bool k')) (by show (cmpV op2 dy' dz).bind _ = _; rw [e6]; rfl) fun F5 H5 v5 S5 X5 hv => g4.here S5 X5 v5 hv
theorem e_chain {op op2 : CmpOp} {b2 : Expr} {ic : E} (hu : X.A.units + 65 < cLine) (ha : PE X a (RE X.K c W0 (evE call lo ia))) (hb : PE X b (RE X.K c W0 (evE call lo ib))) (hc : PE X b2 (RE X.K c W0 (evE call lo ic))) (hm : lastMarks [op, op2] [b, b2] = false) :
    PE X (.Compare a [op, op2] [b, b2] pos) (RE X.K c W0 (evE call lo (.chain op op2 ia ib ic))) :=
  pe_imp (pe_chain (cmp_ok hu op) (cmp_ok hu op2) (pe_opd ha) (pe_opd hb) (pe_opd hc) hm) fun σ H Q h => chain_main h
theorem chain_bool {op op2 : CmpOp} {ic : E} (ρ : Env) (z : Val) (ρ1 : Env) (h : evE call lo (.chain op op2 ia ib ic) ρ = .ok (z, ρ1)) : ∃ k, z = .d (.bool k) := by
  have h : ((opd (evE call lo ia ρ)).bind fun x => (opd (evE call lo ib x.2)).bind fun y => (Res.need (look y.2 x.1)).bind fun u => (Res.need (look y.2 y.1)).bind fun v => (cmpV op u v).bind fun k =>
      if k then (opd (evE call lo ic y.2)).bind fun z => (Res.need (look z.2 y.1)).bind fun v => (Res.need (look z.2 z.1)).bind fun w => (cmpV op2 v w).bind fun k => .ok (.d (.bool k), z.2) else .ok (.d (.bool false), y.2)) = Res.ok (z, ρ1) := h
  have bnd : ∀ {α β : Type} {r : Res α} {f : α → Res β} {y : β}, r.bind f = .ok y → ∃ a, r = .ok a ∧ f a = .ok y := fun {α β r f y} q => by
    cases r with
    | ok a => exact ⟨a, rfl, q⟩
    | ex _ _ _ => cases q
    | bad => cases q
  obtain ⟨x, _, h⟩ := bnd h
  obtain ⟨y, _, h⟩ := bnd h
  obtain ⟨u, _, h⟩ := bnd h
  obtain ⟨v, _, h⟩ := bnd h
  obtain ⟨k, _, h⟩ := bnd h
  cases k with
  | false => cases h; exact ⟨_, rfl⟩
  | true =>
    rw [if_pos rfl] at h
    obtain ⟨x, _, h⟩ := bnd h
    obtain ⟨y, _, h⟩ := bnd h
    obtain ⟨u, _, h⟩ := bnd h
    obtain ⟨v, _, h⟩ := bnd h
    cases h
    exact ⟨_, rfl⟩
theorem t_chain {op op2 : CmpOp} {b2 : Expr} {ic : E} (hu : X.A.units + 65 < cLine) (ha : PE X a (RE X.K c W0 (evE call lo ia))) (hb : PE X b (RE X.K c W0 (evE call lo ib))) (hc : PE X b2 (RE X.K c W0 (evE call lo ic))) (hm : lastMarks [op, op2] [b, b2] = false) :
    PT X (.Compare a [op, op2] [b, b2] pos) (RT X.K c W0 (evT call lo (.val (.chain op op2 ia ib ic)))) :=
  pt_imp (pt_chain (cmp_ok hu op) (cmp_ok hu op2) (pe_opd ha) (pe_opd hb) (pe_opd hc) hm) fun σ H Q h => chain_main (bool_val (f := evE call lo (.chain op op2 ia ib ic)) chain_bool h)

/-! ### targets of several names -/
theorem st_asgT {tg : Tg} (he : PE X e (RE X.K c W0 (evE call lo ie))) (hg : PG X d (RGt X.K c tg)) (hs : swapsWithSole [d] e pos.line X.env = pure false) (hw : swappedStores [d] e X.env = pure none) (h1 : (assignEach [d] X.env).map (·.2) = [assign d X.env]) :
    PS X (.Assign [d] e pos) (RS X.K c W0 (evS call lo (.asgT tg ie))) :=
  ps_imp (ps_asg (pe_opd he) hg hs hw h1) fun D σ H ⟨F, ρ, S, g⟩ => by
    have g : GS X.K c W0 F ((opd (evE call lo ie ρ)).bind fun r => (Res.need (alias1 r.2 r.1)).bind fun q => (Res.need (storeTg q.2 tg q.1)).bind fun ρ1 => .ok (.nx ρ1)) D := g
    refine ⟨F, ρ, S, (GS.expr (σ := σ) (ρ := ρ) (H := H) g).imp fun z ρ1 F1 H1 S1 X1 g1 v o => ?_⟩
    obtain ⟨q, e1, g1⟩ := g1.need
    obtain ⟨F2, S2, X2, d2⟩ := S1.alias1 o e1
    obtain ⟨ρ3, e3, g3⟩ := g1.need
    exact ⟨F2, q.2, q.1, ρ3, S2, d2, e3, fun σ' S' _ => g3 σ' F2 H1 S' X2.exF⟩

/-! ### a, b = x, y -/
theorem par_main {fs : Es} {is : List Nat} {D : Ends} {σ : St} {H : Hp} (h : RS X.K c W0 (evS call lo (.asgT (.tp is) (.tup fs))) D σ H) : RA X.K c W0 (evEs call lo fs) σ H fun vs H1 => vs.length = is.length ∧ D.nx (setAll σ is vs) H1 := by
  obtain ⟨F, ρ, S, g⟩ := h
  have g : GS X.K c W0 F ((opd ((evEs call lo fs ρ).bind fun r => (Res.need (aliasL r.2 r.1)).bind fun q => if fits q.1.length then .ok (.d (.tuple q.1), q.2) else .bad)).bind fun r => (Res.need (alias1 r.2 r.1)).bind fun q => (Res.need (storeTg q.2 (.tp is) q.1)).bind fun ρ1 => .ok (.nx ρ1)) D := g
  refine ⟨F, ρ, S, ?_⟩
  unfold opd at g
  cases he : evEs call lo fs ρ with
  | bad => rw [he] at g; exact g
  | ex cn v ρ' => rw [he] at g; exact fun F' H' S' X' => g σ F' H' S' X'.exF
  | ok r =>
    rw [he] at g
    intro F1 H1 S1 X1 vs o
    have g : GS X.K c W0 F ((((Res.need (aliasL r.2 r.1)).bind fun q => if fits q.1.length then (.ok (.d (.tuple q.1), q.2) : Res (Val × Env)) else .bad).bind fun q => .ok (settle q)).bind fun r => (Res.need (alias1 r.2 r.1)).bind fun q => (Res.need (storeTg q.2 (.tp is) q.1)).bind fun ρ1 => .ok (.nx ρ1)) D := g
    cases ha : aliasL r.2 r.1 with
    | none => rw [ha] at g; exact g.elim
    | some q =>
      rw [ha] at g
      obtain ⟨F2, S2, X2, d2⟩ := SR.aliasL o S1 o ha
      have g : GS X.K c W0 F (((if fits q.1.length then (.ok (.d (.tuple q.1), q.2) : Res (Val × Env)) else .bad).bind fun q => .ok (settle q)).bind fun r => (Res.need (alias1 r.2 r.1)).bind fun q => (Res.need (storeTg q.2 (.tp is) q.1)).bind fun ρ1 => .ok (.nx ρ1)) D := g
      cases hf : fits q.1.length with
      | false => rw [hf] at g; exact g.elim
      | true =>
        rw [hf] at g
        have g : GS X.K c W0 F ((Res.need (storeTg q.2 (.tp is) (.tuple q.1))).bind fun ρ1 => .ok (.nx ρ1)) D := g
        obtain ⟨ρ3, e3, g3⟩ := g.need
        have e3 : (if is.length = q.1.length then storeAll q.2 is q.1 else none) = some ρ3 := e3
        split at e3
        · rename_i hl
          obtain ⟨S3, _⟩ := storeAll_ok S2 d2 e3
          exact ⟨d2.length.trans hl.symm, g3 _ F2 H1 S3 (X1.exF.trans X2.exF)⟩
        · cases e3
theorem st_par2 {i j : Nat} {x y : Str} {px py pt : Pos} {kt k2 : Nat} {pt2 : Pos} {fs : Es} (hc : X.calm = true) (hN : X.N.Nodup) (hi : X.N[i]? = some x) (hj : X.N[j]? = some y) (hij : i ≠ j)
    (hx : X.env.scope.names.lookup x = some .local) (hy : X.env.scope.names.lookup y = some .local) (ha : PA X [a, b] (RA X.K c W0 (evEs call lo fs)))
    (hw : swappedStores [.Tuple [.Name x px, .Name y py] kt pt] (.Tuple [a, b] k2 pt2) X.env = pure (some [x, y])) :
    PS X (.Assign [.Tuple [.Name x px, .Name y py] kt pt] (.Tuple [a, b] k2 pt2) pos) (RS X.K c W0 (evS call lo (.asgT (.tp [i, j]) (.tup fs)))) :=
  ps_imp (ps_par hc hN hi hj hij hx hy ha hw) fun D σ H h => by
    obtain ⟨F, ρ, S, g⟩ := par_main h
    refine ⟨F, ρ, S, G.imp g fun zs ρ' F' H' S' X' q vs o => ?_⟩
    obtain ⟨hl, q⟩ := q vs o
    match vs, hl, q with
    | [v, w], _, q => exact ⟨v, w, rfl, q⟩
theorem st_par3 {i j l : Nat} {x y z : Str} {b2 : Expr} {px py pz pt : Pos} {kt k2 : Nat} {pt2 : Pos} {fs : Es} (hc : X.calm = true) (hN : X.N.Nodup) (hi : X.N[i]? = some x) (hj : X.N[j]? = some y) (hl : X.N[l]? = some z) (hij : i ≠ j) (hil : i ≠ l) (hjl : j ≠ l)
    (hx : X.env.scope.names.lookup x = some .local) (hy : X.env.scope.names.lookup y = some .local) (hz : X.env.scope.names.lookup z = some .local) (ha : PA X [a, b, b2] (RA X.K c W0 (evEs call lo fs)))
    (hw : swappedStores [.Tuple [.Name x px, .Name y py, .Name z pz] kt pt] (.Tuple [a, b, b2] k2 pt2) X.env = pure (some [x, y, z])) :
    PS X (.Assign [.Tuple [.Name x px, .Name y py, .Name z pz] kt pt] (.Tuple [a, b, b2] k2 pt2) pos) (RS X.K c W0 (evS call lo (.asgT (.tp [i, j, l]) (.tup fs)))) :=
  ps_imp (ps_par3 hc hN hi hj hl hij hil hjl hx hy hz ha hw) fun D σ H h => by
    obtain ⟨F, ρ, S, g⟩ := par_main h
    refine ⟨F, ρ, S, G.imp g fun zs ρ' F' H' S' X' q vs o => ?_⟩
    obtain ⟨hl, q⟩ := q vs o
    match vs, hl, q with
    | [v, w, u], _, q => exact ⟨v, w, u, rfl, q⟩
def bkOf (sc : Scope) : ScopeKind := if sc.kind.isAnnotationScope then .function else sc.kind
/-- how a pair of displays is stored: none unknown -/
def swapC (ts vs : List Expr) (sc : Scope) : Option (Option (List Str)) :=
  if (!(ts.length == 2 || ts.length == 3) || vs.length != ts.length || bkOf sc != .function) = true then some none
  else if (vs.any fun | .Starred .. => true | _ => false) = true then some none
  else
    let names := ts.filterMap fun
      | .Name id pos => if sc.names.lookup id == some .local && pos.line == (ts.head?.map (·.pos.line)).getD 0 then some id else none
      | _ => none
    if (names.length != ts.length || names.eraseDups.length != names.length) = true then some none
    else if vs.all (foldedForSure 8) = true then some none
    else if vs.all (constantsAlone 8) = true then none
    else some (some names)
theorem swapC_ok {ts vs : List Expr} {k k2 : Nat} {p p2 : Pos} {env : PySem.Env} {r : Option (List Str)} (h : swapC ts vs env.scope = some r) : swappedStores [.Tuple ts k p] (.Tuple vs k2 p2) env = pure r := by
  unfold swapC at h
  split at h
  · rename_i h1
    cases h
    exact if_pos h1
  · rename_i h1
    split at h
    · rename_i h2
      cases h
      refine (if_neg h1).trans ?_
      exact if_pos h2
    · rename_i h2
      simp only [] at h
      split at h
      · rename_i h3
        cases h
        refine (if_neg h1).trans ?_
        refine (if_neg h2).trans ?_
        exact if_pos h3
      · rename_i h3
        split at h
        · rename_i h4
          cases h
          refine (if_neg h1).trans ?_
          refine (if_neg h2).trans ?_
          refine (if_neg h3).trans ?_
          exact if_pos h4
        · rename_i h4
          split at h
          · cases h
          · rename_i h5
            cases h
            refine (if_neg h1).trans ?_
            refine (if_neg h2).trans ?_
            refine (if_neg h3).trans ?_
            refine (if_neg h4).trans ?_
            refine (if_neg h5).trans ?_
            rfl

/-! ### the other way round -/
theorem rev_adjust (n : Nat) : Builtin.Slice.sliceAdjust none none (-1) (n : Int) = ((n : Int) - 1, -1) := rfl
theorem rev_places (n : Nat) : Builtin.Slice.slicePlaces ((n : Int) - 1) (-1) (-1) = n := by
  unfold Builtin.Slice.slicePlaces
  rw [if_neg (by decide)]
  by_cases h : (n : Int) - 1 > -1
  · rw [if_pos h]
    simp
  · rw [if_neg h]
    omega
theorem rev_pick (xs : Array Value) : ((List.range xs.size).filterMap fun (m : Nat) => xs[((xs.size : Int) - 1 + (m : Int) * (-1)).toNat]?).toArray = xs.toList.reverse.toArray := by
  congr 1
  have gen : ∀ (l : List Nat) (f g : Nat → Option Value), (∀ m ∈ l, f m = g m) → l.filterMap f = l.filterMap g := fun l f g => by
    induction l with
    | nil => exact fun _ => rfl
    | cons a l ih => intro h; rw [List.filterMap_cons, List.filterMap_cons, h a List.mem_cons_self, ih fun m hm => h m (List.mem_cons_of_mem a hm)]
  have e : (List.range xs.size).filterMap (fun (m : Nat) => xs[((xs.size : Int) - 1 + (m : Int) * (-1)).toNat]?) = (List.range xs.size).filterMap (fun m => xs.toList.reverse[m]?) := by
    apply gen
    intro m hm
    have hm := List.mem_range.mp hm
    rw [List.getElem?_reverse (by simpa using hm), Array.getElem?_toList, Array.length_toList]
    congr 1
    omega
  rw [e]
  have hl : xs.size = xs.toList.reverse.length := by simp
  rw [hl]
  generalize xs.toList.reverse = l
  clear e hl xs
  induction l with
  | nil => rfl
  | cons x l ih =>
    rw [List.length_cons, List.range_succ_eq_map, List.filterMap_cons]
    show x :: _ = _
    rw [List.filterMap_map]
    exact congrArg (x :: ·) ih
section
variable {prog : Program} {w : World} {A : Around} {Ex : Value → Shared → Prop} {s : Shared}
theorem sliceApplied_rev {sl : Addr} {vs : Value} {m : Nat} {Q : Int × Int × Nat → Shared → Prop} (hs : s.heap.IsSliceOf sl .none .none vs) (ps : IsPart vs (some (-1)))
    (h : Q ((m : Int) - 1, -1, m) s) : wpAny (model prog w) A (Builtin.Slice.sliceApplied (.ref sl) (pure (m : Int))) Q Ex s := by
  obtain ⟨os, hos, hcs, hds⟩ := id hs
  unfold Builtin.Slice.sliceApplied Builtin.Slice.sliceFields
  refine wpAny_bind (wpAny_bind (wpAny_field hos hds (x := .none) rfl (wpAny_bind (wpAny_field hos hds (x := .none) rfl (wpAny_bind (wpAny_field hos hds (x := vs) rfl (wpAny_pure ?_)))))))
  refine wpAny_bind (HT.slicePart_ ps ?_)
  show wpAny _ _ (if ((-1 : Int) == 0) = true then _ else _) _ _ s
  rw [if_neg (by decide)]
  refine wpAny_bind (HT.slicePart_ .none (wpAny_bind (HT.slicePart_ .none (wpAny_bind (wpAny_pure ?_)))))
  show wpAny _ _ (match Builtin.Slice.sliceAdjust none none (-1) (m : Int) with | (lo, hi) => pure (lo, (-1 : Int), Builtin.Slice.slicePlaces lo hi (-1))) _ _ s
  rw [rev_adjust]
  show wpAny _ _ (pure ((m : Int) - 1, (-1 : Int), Builtin.Slice.slicePlaces ((m : Int) - 1) (-1) (-1))) _ _ s
  rw [rev_places]
  exact wpAny_pure h
theorem getItem_tuple_rev {t sl : Addr} {items : Array Value} {vs : Value} {Q : Value → Shared → Prop} (ht : IsTup s.heap t items) (hs : s.heap.IsSliceOf sl .none .none vs) (ps : IsPart vs (some (-1)))
    (h : Q (.ref s.heap.objs.size) { s with heap := s.heap.push { cls := .type "tuple", data := .seq items.toList.reverse.toArray } })
    (hsz : items.size ≤ sizeLine) : wpAny (model prog w) A (getItem (.ref t) (.ref sl)) Q Ex s := by
  have htake : sizeOk (.seq items.toList.reverse.toArray) := by
    show items.toList.reverse.toArray.size ≤ sizeLine
    rw [List.size_toArray, List.length_reverse, Array.length_toList]
    exact hsz
  obtain ⟨os, hos, hcs, hds⟩ := id hs
  have hTs : s.TypeIs (.ref sl) "slice" := ⟨os, hos, hcs⟩
  unfold getItem
  try with_reducible refine wpAny_holding ?_
  first | refine wpAny_bind (wpAny_pure ?_) | skip
  refine wpAny_bind (wpAny_sequenceKey ht.typeIs (by decide) ?_)
  refine wpAny_bind (wpAny_callSpecial?_slot (name := Str.ofString "__getitem__") ht.typeIs PyProof.Rows.slot_tuple_getitem
    (wpAny_call_entry PyProof.Rows.slot_tuple_getitem ht.typeIs entry_tuple_getitem ?_ (args_tuple_getitem _ _)))
  show wpAny _ _ (Builtin.Tuple.tupleItemsOf (.ref t) >>= _) _ _ s
  refine wpAny_bind (tupleItemsOf_ ht ?_)
  refine wpAny_bind (wpAny_typeOf hTs ?_)
  rw [if_pos (by decide)]
  refine wpAny_bind (sliceApplied_rev hs ps ?_)
  have hno : ¬ ((((items.size : Int) - 1) == 0 && (-1 : Int) == 1 && items.size == items.size) = true) := by
    intro q
    rw [Bool.and_eq_true, Bool.and_eq_true] at q
    exact absurd q.1.2 (by decide)
  show wpAny _ _ (if (((items.size : Int) - 1) == 0 && (-1 : Int) == 1 && items.size == items.size) = true then _ else _) _ _ s
  rw [if_neg hno, rev_pick]
  first
    | exact wpAny_bind (m := Builtin.Tuple.tupleExact _) (wpAny_newObj_type (wpAny_pure ⟨_, rfl, wpAny_pure h⟩) htake)
    | exact wpAny_bind (m := Builtin.Tuple.tupleExact _) (wpAny_newObj_type (wpAny_bind (wpAny_pure (wpAny_pure ⟨_, rfl, wpAny_pure h⟩))) htake)
    | exact wpAny_bind (wpAny_bind (m := Builtin.Tuple.tupleExact _) (wpAny_newObj_type (wpAny_pure (wpAny_pure ⟨_, rfl, wpAny_pure h⟩)) htake))
    | exact wpAny_bind (wpAny_bind (m := Builtin.Tuple.tupleExact _) (wpAny_newObj_type (wpAny_pure ⟨_, rfl, wpAny_pure h⟩) htake))
end
def tRevLT (K : PySem.W.Frag) (te : TE) : TE := fun σ H Q => te σ H fun x H1 => ∃ a xs, x = .ref a ∧ ((SqL K H1 a xs ∧ ∀ p, H1 p = none → Q (.ref p) (upd H1 p (.lst xs.reverse))) ∨ (SqT K H1 a xs ∧ ∀ p, H1 p = none → Q (.ref p) (upd H1 p (.tup xs.reverse))))
theorem pe_revLT {te : TE} {k : Nat} {p1 p2 p3 : Pos} (he : PE X e te) : PE X (.Subscript e (.Slice none none (some (.UnaryOp .USub (.Constant (.int 1) k p1) p2)) p3) pos) (tRevLT X.K te) := by
  refine ⟨fun pins s σ H Q I h => ?_⟩
  refine Subscript_ (thn (he.run pins s σ H _ I h) fun v s1 ⟨x, H1, I1, r1, q1⟩ => ?_)
  obtain ⟨a, xs, ex, q⟩ := q1
  subst ex
  cases r1
  have hst : PO X (some (.UnaryOp .USub (.Constant (.int 1) k p1) p2)) (tPart (tUn (rU fun i => .int (-i)) (tC (.int 1)))) := po_some (pe_un un_neg pe_int)
  refine wpAny_Slice (thn (po_none.run pins s1 σ H1 (fun o H2 => o = none ∧ H2 = H1) I1 ⟨rfl, rfl⟩) fun vl s2 ⟨l, H2, I2, pl, el, e2⟩ => ?_)
  subst el e2
  refine thn (po_none.run pins s2 σ H2 (fun o H3 => o = none ∧ H3 = H2) I2 ⟨rfl, rfl⟩) fun vu s3 ⟨u, H3, I3, pu, eu, e3⟩ => ?_
  subst eu e3
  refine thn (hst.run pins s3 σ H3 (fun o H4 => o = some (-1) ∧ H4 = H3) I3 ⟨1, rfl, -1, rfl, rfl, rfl⟩) fun vs s4 ⟨o, H4, I4, ps, eo, e4⟩ => ?_
  subst eo e4
  have I5 : Inv X pins σ H4 { s4 with heap := s4.heap.push { cls := .type "slice", data := .fields #[vl, vu, vs] } } := I4.kept (t' := s4.toks) fun b ob q => Heap.get?_push_of_some _ q
  show wpAny (model X.prog X.w) X.A (subscriptTail e (.Slice none none (some (.UnaryOp .USub (.Constant (.int 1) k p1) p2)) p3) (.ref a) (.ref s4.heap.objs.size)) (EP X pins σ Q) X.xe { s4 with heap := s4.heap.push { cls := .type "slice", data := .fields #[vl, vu, vs] } }
  rcases q with ⟨hx, q⟩ | ⟨hx, q⟩
  · obtain ⟨its, r, ht, hz⟩ := I5.list hx
    have hlen := r.length
    refine tail_any (ops := [.ref a, .ref s4.heap.objs.size]) ht.isList.typeIs (PySem.slot_list_getitem.lookup) ?_ (by with_unfolding_all rfl)
    refine wpAny_getItem_list_slice ht.isList (Heap.IsSliceOf.new _ vl vu vs) pl pu ps (by decide) ?_ (by rw [List.size_toArray]; omega)
    rw [PySem.W.krv_pick]
    refine ⟨.ref _, _, I5.laid (t' := s4.toks) (o := .lst xs.reverse) (fun b ob q => Heap.get?_push_of_some _ q) (Nat.le_refl _) ?_, rfl, q _ (I5.hok.fresh (Nat.le_refl _))⟩
    exact ⟨by rw [List.length_reverse]; exact hz, _, 0, r.reverse, Heap.get?_push_size _ rfl⟩
  · obtain ⟨its, r, ht, hz⟩ := I5.tuple hx
    have hlen : its.toArray.size = xs.length := by rw [List.size_toArray]; exact r.length.symm
    refine tail_any (ops := [.ref a, .ref s4.heap.objs.size]) ht.typeIs (PyProof.Rows.slot_tuple_getitem.lookup) ?_ (by with_unfolding_all rfl)
    cases pl
    cases pu
    refine getItem_tuple_rev ht (Heap.IsSliceOf.new _ .none .none vs) ps ?_ (by rw [hlen]; exact hz)
    refine ⟨.ref _, _, I5.laid (t' := s4.toks) (o := .tup xs.reverse) (fun b ob q => Heap.get?_push_of_some _ q) (Nat.le_refl _) ?_, rfl, q _ (I5.hok.fresh (Nat.le_refl _))⟩
    exact ⟨by rw [List.length_reverse]; exact hz, _, r.reverse, IsTup.new _ _⟩
theorem revV_ne (x : PX.D) (cn : String) (v : PX.D) (ρ' : Env) : revV x ≠ .ex cn v ρ' := by
  intro h
  unfold revV at h
  split at h <;> cases h
theorem rev_op : Op1 X.K c (fun v H Q => ∃ a xs, v = .ref a ∧ ((SqL X.K H a xs ∧ ∀ p, H p = none → Q (.ref p) (upd H p (.lst xs.reverse))) ∨ (SqT X.K H a xs ∧ ∀ p, H p = none → Q (.ref p) (upd H p (.tup xs.reverse))))) revV := by
  intro σ ρ F H v z x y Q S o e e2 q
  unfold revV at e2
  split at e2
  · cases e2
    obtain ⟨a, vs, rfl, s1, d1⟩ := S.lookL o e
    refine ⟨a, vs, rfl, .inl ⟨s1.sl, fun p hp => ?_⟩⟩
    exact q.newL S hp (by rw [List.length_reverse]; exact S.hl.1 a vs s1.sl) d1.reverse
  · cases e2
    obtain ⟨a, vs, rfl, _, s1, d1⟩ := S.lookT o e
    refine ⟨a, vs, rfl, .inr ⟨s1, fun p hp => ?_⟩⟩
    exact q.newT S hp (by rw [List.length_reverse]; exact S.hl.2 a vs s1) d1.reverse
  · cases e2
theorem e_rev {k : Nat} {p1 p2 p3 : Pos} (ha : PE X a (RE X.K c W0 (evE call lo ia))) : PE X (.Subscript a (.Slice none none (some (.UnaryOp .USub (.Constant (.int 1) k p1) p2)) p3) pos) (RE X.K c W0 (evE call lo (.rev ia))) :=
  pe_imp (pe_revLT (pe_opd ha)) fun σ H Q h => one_op rev_op revV_ne h

/-! ### sets that are counted or sorted at once -/
theorem e_lenset (hx : XC P n kws N sc X) {p2 q : Pos} (hg : Gl X "len") (hg2 : Gl X "set") (hst : isStar a = false) (ha : PE X a (RE X.K c W0 (evE call lo ia))) :
    PE X (.Call (.Name "len" p) [.Call (.Name "set" p2) [a] [] q] [] pos) (RE X.K c W0 (evE call lo (.lenset ia))) :=
  pe_imp (pe_lenSetN hx.calm hg (hx.prog.free "len" (by decide +kernel)) hg2 (hx.prog.free "set" (by decide +kernel)) (pe_opd ha) (star_cons (notStar hst))) fun σ H Q h => one_op lenSet_op lenSetV_ne h
theorem e_sortset (hx : XC P n kws N sc X) {p2 q : Pos} (hg : Gl X "sorted") (hg2 : Gl X "set") (hst : isStar a = false) (ha : PE X a (RE X.K c W0 (evE call lo ia))) :
    PE X (.Call (.Name "sorted" p) [.Call (.Name "set" p2) [a] [] q] [] pos) (RE X.K c W0 (evE call lo (.sortset ia))) :=
  pe_imp (pe_sortSet hx.calm hg (hx.prog.free "sorted" (by decide +kernel)) hg2 (hx.prog.free "set" (by decide +kernel)) (pe_opd ha) (star_cons (notStar hst))) fun σ H Q h => one_op sortSet_op sortSetV_ne h

/-! ### methods that change a list -/
def mtId : Mt → String
  | .append => "list.append"
  | .extend => "list.extend"
  | _ => "list.pop"
def mtNm : Mt → Str
  | .append => "append"
  | .extend => "extend"
  | _ => "pop"
def rExtR (K : PySem.W.Frag) : V → List V → Hp → VK → Prop := fun x vs H Q => ∃ (l b : Addr) (xs zs : List V), x = .ref l ∧ vs = [.ref b] ∧ H l = some (.lst xs) ∧ SqP K H b zs ∧ xs.length + zs.length ≤ sizeLine ∧ Q .non (upd H l (.lst (xs ++ zs)))
theorem mt_extR : MtR X "list.extend" (rExtR X.K) := by
  intro pins s σ H x vs v us Q I rx rv h
  obtain ⟨l, b, xs, zs, rfl, rfl, h1, h2, hsum, q⟩ := h
  cases rx
  obtain ⟨u, rfl, ru⟩ := rv.one
  cases ru
  obtain ⟨y1, as, n1, v1, w1, g1⟩ := I.lstM h1
  obtain ⟨y2, bs, n2, v2, w2, g2⟩ := Inv.lstR I h2
  have few : as.toArray.size + bs.toArray.size ≤ sizeLine := by
    rw [List.size_toArray, List.size_toArray]
    omega
  have nolong : ¬ (!as.toArray.isEmpty && Builtin.List.listTooLong (as.toArray.size + bs.toArray.size)) = true := by
    rw [notLongL few, Bool.and_false]
    intro z
    cases z
  refine call_meets F.slot_list_extend ⟨_, g1, rfl⟩ F.entry_list_extend (F.args_list_extend_2 _ _) (AutoSeq1.list_extend_list_list_0 l as.toArray n1 b bs.toArray n2 nolong (by rw [List.size_toArray]; omega) (by omega)) ⟨g1, g2, ?_⟩
  refine ⟨.non, _, I.lset (its' := as ++ bs) h1 g1 (by simp) (v1.append v2) ?_, rfl, q⟩
  rw [List.length_append]
  omega
/-- what the library asks of the change: the list as it is, the arguments -/
def rMt (K : PySem.W.Frag) : Mt → V → List V → Hp → VK → Prop
  | .append => rAppend
  | .pop => rPop
  | .popAt => rPopAt
  | .extend => rExtR K
theorem mt_op {m : Mt} {σ : St} {ρ ρ' : Env} {F H : Hp} {i : Nat} {a : Addr} {vs : List V} {ds : List PX.D} {o : PX.D × List PX.D} {Q : VK} (S : SR X.K c F H σ ρ) (ha : σ[i]? = some (some (.ref a))) (dl : DenL X.K F vs ds) (hm : mtV m (listOf (slot ρ i)) ds = some o)
    (hc : change ρ i (fun _ => some o.2) = some ρ') (q : ∀ v H', SR X.K c F H' σ ρ' → Ext σ ρ F H ρ' F H' → Den X.K F v o.1 → Q v H') : rMt X.K m (.ref a) vs H Q := by
  obtain ⟨a', ws, xs, ys, a1, a2, a3, a4, a5, a6⟩ := S.change hc
  rw [ha] at a1
  cases a1
  cases a4
  have hls : listOf (slot ρ i) = xs := by
    cases hk : slot ρ i with
    | un => rw [hk] at a5; cases a5
    | fz d =>
      have hc' : (match slot ρ i with | .ow zs => (some o.2).map fun ys => ρ.set i (.ow ys) | .io zs => (some o.2).map fun ys => ρ.set i (.io ys) | _ => none) = some ρ' := hc
      rw [hk] at hc'
      cases hc'
    | ow zs => rw [hk] at a5; cases a5; rfl
    | io zs => rw [hk] at a5; cases a5; rfl
  rw [hls] at hm
  have hlen := a3.length
  unfold mtV at hm
  split at hm
  · split at hm
    · rename_i d hz
      cases hm
      cases dl with
      | cons d1 d2 =>
        cases d2
        have hl : ws.length < sizeLine := by rw [hlen]; exact hz
        obtain ⟨S5, X5⟩ := a6 (ws ++ [_]) (by rw [List.length_append]; exact hl) (DenL.append a3 (.cons d1 .nil))
        exact ⟨a, ws, _, rfl, rfl, a2, hl, q _ _ S5 X5 .non⟩
    · cases hm
  · cases dl
    cases hg : xs.getLast? with
    | none => rw [hg] at hm; cases hm
    | some d =>
      rw [hg] at hm
      cases hm
      rw [List.getLast?_eq_getElem?] at hg
      obtain ⟨w, w1, w2⟩ := a3.get hg
      obtain ⟨S5, X5⟩ := a6 ws.dropLast (by rw [List.length_dropLast]; have := S.hl.1 a ws (.inl (.inl a2)); omega) (DenL.dropLast a3)
      exact ⟨a, ws, w, rfl, rfl, a2, by rw [hlen]; exact w1, q _ _ S5 X5 w2⟩
  · split at hm
    · rename_i i' hi
      split at hm
      · rename_i k hk
        cases hg : xs[k]? with
        | none => rw [hg] at hm; cases hm
        | some d =>
          rw [hg] at hm
          cases hm
          cases dl with
          | cons d1 d2 =>
            cases d2
            rw [Den.toInt d1]
            obtain ⟨w, w1, w2⟩ := a3.get hg
            obtain ⟨S5, X5⟩ := a6 (ws.eraseIdx k) (by have := S.hl.1 a ws (.inl (.inl a2)); have := List.length_eraseIdx_le ws k; omega) (DenL.eraseIdx a3 k)
            exact ⟨a, ws, _, k, w, rfl, rfl, a2, hi.1, hi.2, by rw [hlen]; exact (ixN_seq hk).1, w1, q _ _ S5 X5 w2⟩
      · cases hm
    · cases hm
  · split at hm
    · rename_i ys hz
      cases hm
      cases dl with
      | cons d1 d2 =>
        cases d2
        obtain ⟨b, us, rfl, s1, s2⟩ := d1.list
        have hl : ws.length + us.length ≤ sizeLine := by rw [hlen, s2.length]; exact hz
        obtain ⟨S5, X5⟩ := a6 (ws ++ us) (by rw [List.length_append]; exact hl) (DenL.append a3 s2)
        exact ⟨a, b, ws, us, rfl, rfl, a2, S.exF.sp s1, hl, q _ _ S5 X5 .non⟩
    · cases hm
  · cases hm

theorem mut_main {m : Mt} {i : Nat} {es : List Expr} {fs : Es} {σ : St} {F H : Hp} {ρ : Env} {Q : VK} (S : SR X.K c F H σ ρ)
    (g : G X.K c W0 σ ρ F H (evE call lo (.mut m i fs) ρ) (fun z ρ' F' H' => ∀ v, VR X.K c σ ρ' F' H' H v z → Q v H')) :
    ∃ a, σ[i]? = some (some (.ref a)) ∧ tyV X.K "list" (.ref a) H ∧ RA X.K c W0 (evEs call lo fs) σ H fun vs H1 => rMt X.K m (.ref a) vs H1 Q := by
  have g : G X.K c W0 σ ρ F H (if isOwn (slot ρ i) then (evEs call lo fs ρ).bind fun r => (Res.need (aliasL r.2 r.1)).bind fun q => (Res.need (mtV m (listOf (slot q.2 i)) q.1)).bind fun o =>
      (Res.need (change q.2 i fun _ => some o.2)).bind fun ρ1 => .ok (.d o.1, ρ1) else .bad) (fun z ρ' F' H' => ∀ v, VR X.K c σ ρ' F' H' H v z → Q v H') := g
  obtain ⟨hown, g⟩ := g.ite
  obtain ⟨a, ha⟩ := S.place hown
  have ty : tyV X.K "list" (.ref a) H := by
    obtain ⟨vs, hv⟩ := S.live ⟨i, hown, ha⟩
    exact .inl ⟨rfl, _, SqL.of hv⟩
  refine ⟨a, ha, ty, F, ρ, S, g.bind.imp fun zs ρ1 F1 H1 S1 X1 g1 vs o => ?_⟩
  obtain ⟨q, e1, g1⟩ := g1.need
  obtain ⟨F2, S2, X2, d2⟩ := SR.aliasL o S1 o e1
  obtain ⟨o', e2, g1⟩ := g1.need
  obtain ⟨ρ3, e3, g1⟩ := g1.need
  exact mt_op S2 ha d2 e2 e3 fun v H' S' X' dv => g1.here S' (X2.trans X') v dv
theorem mt_ok (m : Mt) : MtR X (mtId m) (rMt X.K m) := by
  cases m
  · exact mt_append
  · exact mt_pop
  · exact mt_popAt
  · exact mt_extR
theorem e_mut0 {i : Nat} {x : Str} {apos p : Pos} (hN : X.N[i]? = some x) (hv : Vis X.env.scope x) (hd : (x == ("__debug__" : Str)) = false) (hcd : (x == ("__classdict__" : Str)) = false) (hline : (apos.endLine == pos.line) = true) :
    PE X (.Call (.Attribute (.Name x p) "pop" apos) [] [] pos) (RE X.K c W0 (evE call lo (.mut .pop i .nil))) :=
  re_of (pe_bm0 PySem.F.plainAttrs_list PySem.F.slot_list_pop PySem.F.type_list_pop (mt_ok .pop) (pe_var hN hv hd hcd) rfl hline) fun {σ F ρ H Q} S g => by
    obtain ⟨a, ha, ty, F1, ρ1, S1, g1⟩ := mut_main (es := []) S g
    exact ⟨_, ha, ty, g1.here S1 .refl [] .nil⟩
theorem few1 {e : Expr} {env : PySem.Env} {pos : Pos} (h : isStar e = false) : ((backTo pos (starEach [e] env)).all (fun x => !x.1) && (backToKw pos (keywordEach [] env)).all (fun x => x.1.isSome)
      && decide (([e] : List Expr).length + ([] : List Keyword).length + (if ([] : List Keyword).isEmpty then 0 else 1) < 30)) = true := by
  rw [star_cons (notStar h)]
  rfl
theorem e_mut1 {m : Mt} {i : Nat} {x : Str} {apos p : Pos} {fs : Es} (hm : m = .append ∨ m = .popAt ∨ m = .extend) (hN : X.N[i]? = some x) (hv : Vis X.env.scope x) (hd : (x == ("__debug__" : Str)) = false) (hcd : (x == ("__classdict__" : Str)) = false) (hline : (apos.endLine == pos.line) = true) (hst : isStar e = false)
    (ha : PA X [e] (RA X.K c W0 (evEs call lo fs))) : PE X (.Call (.Attribute (.Name x p) (mtNm m) apos) [e] [] pos) (RE X.K c W0 (evE call lo (.mut m i fs))) := by
  have key : ∀ {σ F ρ H} {Q : VK}, SR X.K c F H σ ρ → G X.K c W0 σ ρ F H (evE call lo (.mut m i fs) ρ) (fun z ρ' F' H' => ∀ v, VR X.K c σ ρ' F' H' H v z → Q v H') → tBM X.K "list" (rMt X.K m) (tVar i) (RA X.K c W0 (evEs call lo fs)) σ H Q := fun {σ F ρ H Q} S g => by
    obtain ⟨a, ha, ty, q⟩ := mut_main (es := [e]) S g
    exact ⟨_, ha, ty, q⟩
  rcases hm with rfl | rfl | rfl
  · exact re_of (pe_bm PySem.F.plainAttrs_list PySem.F.slot_list_append PySem.F.type_list_append (mt_ok .append) (pe_var hN hv hd hcd) ha rfl (few1 hst) hline (star_cons (notStar hst)) rfl) key
  · exact re_of (pe_bm PySem.F.plainAttrs_list PySem.F.slot_list_pop PySem.F.type_list_pop (mt_ok .popAt) (pe_var hN hv hd hcd) ha rfl (few1 hst) hline (star_cons (notStar hst)) rfl) key
  · exact re_of (pe_bm PySem.F.plainAttrs_list PySem.F.slot_list_extend PySem.F.type_list_extend (mt_ok .extend) (pe_var hN hv hd hcd) ha rfl (few1 hst) hline (star_cons (notStar hst)) rfl) key

/-! ### list(range(..)), tuple(range(..)) -/
theorem rgl_den {K : PySem.W.Frag} {F : Hp} (i j : Int) : DenL K F (rgV i j) (rgList i j) := by
  have : ∀ l : List Nat, DenL K F (l.map fun k => V.int (i + (k : Nat))) (l.map fun (k : Nat) => .int (i + k)) := fun l => by
    induction l with
    | nil => exact .nil
    | cons k l ih => exact .cons (.int _) ih
  exact this _
theorem rgl_end {tup : Bool} {i j : Int} {σ : St} {ρ ρ0 : Env} {F F0 H H0 : Hp} {Q : VK} (S : SR X.K c F H σ ρ) (X0 : Ext σ ρ0 F0 H0 ρ F H) (g : G X.K c W0 σ ρ F H (if rgFits i j then .ok (rgVal tup (rgList i j), ρ) else .bad) (fun z ρ' F' H' => ∀ v, VR X.K c σ ρ' F' H' H0 v z → Q v H')) :
    RgOk i j ∧ ∀ q, H q = none → Q (.ref q) (upd H q (if tup then .tup (rgV i j) else .lst (rgV i j))) := by
  obtain ⟨hf, g⟩ := g.ite
  have hf : -(2 ^ 60) ≤ i ∧ i < 2 ^ 60 ∧ -(2 ^ 60) ≤ j ∧ j < 2 ^ 60 ∧ j - i ≤ 16777216 := hf
  have hz : (rgV i j).length ≤ sizeLine := by rw [rgV_length, sizeLine_eq]; omega
  refine ⟨⟨by omega, by omega, by omega, by omega, by omega⟩, fun q hq => ?_⟩
  have A : Aft X.K c σ ρ F H (rgVal tup (rgList i j)) Q := fun F' H' v S' X' hv => g.here S' X' v (hv.since X0.alive)
  cases tup with
  | true => exact A.newT S hq hz (rgl_den i j)
  | false => exact A.newL S hq hz (rgl_den i j)
def rgNm (tup : Bool) : Str := if tup then "tuple" else "list"
theorem rg_free (tup : Bool) : rgNm tup ∈ freeNames := by cases tup <;> decide +kernel
theorem e_rgl (hx : XC P n kws N sc X) (tup : Bool) {p : Pos} {te : St → Hp → (Int → Int → Hp → Prop) → Prop} (hg : Gl X (rgNm tup)) (hst : isStar e = false) (he : PRg X e te) :
    PE X (.Call (.Name (rgNm tup) p) [e] [] pos) (fun σ H Q => te σ H fun i j H1 => RgOk i j ∧ ∀ q, H1 q = none → Q (.ref q) (upd H1 q (if tup then .tup (rgV i j) else .lst (rgV i j)))) := by
  have hm := hx.prog.free _ (rg_free tup)
  cases tup with
  | true => exact pe_tupRg hx.calm hg hm he (star_cons (notStar hst))
  | false => exact pe_listRg hx.calm hg hm he (star_cons (notStar hst))
theorem e_rgl1 (hx : XC P n kws N sc X) (tup : Bool) {p p2 : Pos} {pos2 : Pos} (hg : Gl X (rgNm tup)) (hr : Gl X "range") (hst : isStar a = false) (ha : PE X a (RE X.K c W0 (evE call lo ia))) :
    PE X (.Call (.Name (rgNm tup) p) [.Call (.Name "range" p2) [a] [] pos2] [] pos) (RE X.K c W0 (evE call lo (.rgl1 tup ia))) :=
  re_of (e_rgl hx tup hg rfl (prg_1 hr (hx.prog.free "range" (by decide +kernel)) (pe_opd ha) (star_cons (notStar hst)))) fun {σ F ρ H Q} S g => by
    have g : G X.K c W0 σ ρ F H ((evE call lo ia ρ).bind fun r => (Res.need (asInt r.1)).bind fun j => if rgFits 0 j then .ok (rgVal tup (rgList 0 j), r.2) else .bad) (fun z ρ' F' H' => ∀ v, VR X.K c σ ρ' F' H' H v z → Q v H') := g
    refine ⟨F, ρ, S, (opd_int (ρ0 := ρ) (f := fun j ρ2 => if rgFits 0 j then .ok (rgVal tup (rgList 0 j), ρ2) else .bad) g).imp fun z ρ1 F1 H1 S1 X1 g1 v o => ?_⟩
    obtain ⟨j, rfl, g1⟩ := g1 v o
    exact ⟨j, rfl, rgl_end S1 X1 g1⟩
theorem e_rgl2 (hx : XC P n kws N sc X) (tup : Bool) {p p2 : Pos} {pos2 : Pos} (hg : Gl X (rgNm tup)) (hr : Gl X "range") (hst : isStar a = false) (hst2 : isStar b = false) (ha : PE X a (RE X.K c W0 (evE call lo ia))) (hb : PE X b (RE X.K c W0 (evE call lo ib))) :
    PE X (.Call (.Name (rgNm tup) p) [.Call (.Name "range" p2) [a, b] [] pos2] [] pos) (RE X.K c W0 (evE call lo (.rgl2 tup ia ib))) :=
  re_of (e_rgl hx tup hg rfl (prg_2 hr (hx.prog.free "range" (by decide +kernel)) (pe_opd ha) (pe_opd hb) (star_cons (notStar hst)) (star_cons (notStar hst2)) (by rw [star_cons (notStar hst2)]; rfl))) fun {σ F ρ H Q} S g => by
    have g : G X.K c W0 σ ρ F H ((evE call lo ia ρ).bind fun r => (Res.need (asInt r.1)).bind fun i => (evE call lo ib r.2).bind fun q => (Res.need (asInt q.1)).bind fun j => if rgFits i j then .ok (rgVal tup (rgList i j), q.2) else .bad) (fun z ρ' F' H' => ∀ v, VR X.K c σ ρ' F' H' H v z → Q v H') := g
    refine ⟨F, ρ, S, (opd_int (ρ0 := ρ) (f := fun i ρ2 => (evE call lo ib ρ2).bind fun q => (Res.need (asInt q.1)).bind fun j => if rgFits i j then .ok (rgVal tup (rgList i j), q.2) else .bad) g).imp fun z ρ1 F1 H1 S1 X1 g1 v o => ?_⟩
    obtain ⟨i, rfl, g1⟩ := g1 v o
    refine ⟨F1, ρ1, S1, (opd_int (ρ0 := ρ1) (f := fun j ρ2 => if rgFits i j then .ok (rgVal tup (rgList i j), ρ2) else .bad) g1).imp fun z2 ρ2 F2 H2 S2 X2 g2 w o2 => ?_⟩
    obtain ⟨j, rfl, g2⟩ := g2 w o2
    exact ⟨i, j, rfl, rfl, rgl_end S2 (X1.trans X2) g2⟩

/-! ### while -/
theorem st_while {t : Expr} {it : T} {body : List Stmt} {ib : Ss} (hp : PassesOwn (model X.prog X.w) X.A X.env X.xe) (ht : PT X t (RT X.K c W0 (evT call lo it))) (hb : PSs X body (RS X.K c W0 (evSs call lo ib))) :
    PS X (.While t body [] pos) (RS X.K c W0 (evS call lo (.while_ it ib))) :=
  ps_imp (ps_while hp ht hb) fun D σ H ⟨F, ρ, S, g⟩ => by
    have g : GS X.K c W0 F (whileTurns (fun ρ1 => evT call lo it ρ1) (fun ρ1 => evSs call lo ib ρ1) wBound ρ) D := g
    refine ⟨fun m σi Hi => ∃ Fi ρi, SR X.K c Fi Hi σi ρi ∧ GS X.K c W0 Fi (whileTurns (fun ρ1 => evT call lo it ρ1) (fun ρ1 => evSs call lo ib ρ1) m ρi) D, ⟨wBound, F, ρ, S, g⟩, ?_⟩
    rintro m σi Hi ⟨Fi, ρi, Si, gi⟩
    cases m with
    | zero => exact gi.elim
    | succ m =>
      have gi : GS X.K c W0 Fi ((evT call lo it ρi).bind fun r => if r.1 then (evSs call lo ib r.2).bind fun o => match o with
        | .nx ρ2 => whileTurns (fun ρ1 => evT call lo it ρ1) (fun ρ1 => evSs call lo ib ρ1) m ρ2
        | .ct ρ2 => whileTurns (fun ρ1 => evT call lo it ρ1) (fun ρ1 => evSs call lo ib ρ1) m ρ2
        | .bk ρ2 => .ok (.nx ρ2)
        | .ret v ρ2 => .ok (.ret v ρ2) else .ok (.nx r.2)) D := gi
      refine ⟨Fi, ρi, Si, (GS.expr (σ := σi) (ρ := ρi) (H := Hi) gi).imp fun k ρ1 F1 H1 S1 X1 g1 => ?_⟩
      cases k with
      | false =>
        rw [if_neg Bool.false_ne_true] at g1 ⊢
        exact g1 σi F1 H1 S1 (Sm.refl F1)
      | true =>
        rw [if_pos rfl] at g1 ⊢
        refine ⟨fun σ' H' => ∃ Fi ρi, SR X.K c Fi H' σ' ρi ∧ GS X.K c W0 Fi (whileTurns (fun ρ1 => evT call lo it ρ1) (fun ρ1 => evSs call lo ib ρ1) m ρi) D, fun σ' H' h => ⟨m, Nat.lt_succ_self m, h⟩, F1, ρ1, S1, ?_⟩
        revert g1
        show GS X.K c W0 F1 ((evSs call lo ib ρ1).bind _) D → _
        cases evSs call lo ib ρ1 with
        | bad => exact fun q => q
        | ex _ _ _ => exact fun q => q
        | ok o =>
          intro g1 σ' F' H' S' e'
          cases o with
          | nx ρ3 => exact ⟨F', ρ3, S', GS.sm (r := whileTurns (fun ρ1 => evT call lo it ρ1) (fun ρ1 => evSs call lo ib ρ1) m ρ3) g1 e'⟩
          | ct ρ3 => exact ⟨F', ρ3, S', GS.sm (r := whileTurns (fun ρ1 => evT call lo it ρ1) (fun ρ1 => evSs call lo ib ρ1) m ρ3) g1 e'⟩
          | bk ρ3 => exact g1 σ' F' H' S' e'
          | ret v ρ3 => exact g1 σ' F' H' S' e'
end
end PX
/-! PX, part n: from the text to the evaluator's form, expressions. -/
namespace PX
open PySem PySem.Spec PyProof.Rows L2

/-- what is known of the block a text stands in -/
structure TC where
  N : List Str
  sc : Scope
  blk : Option Scope
  keep : List Nat
  fs : List String
  kwl : List (String × Nat × List String × List Nat)
def kwsOf (l : List (String × Nat × List String × List Nat)) (f : String) : List (Nat × List String × List Nat) := l.filterMap fun q => if q.1 = f then some q.2 else none
def fnB (t : TC) (x : Str) : Bool := match t.blk with
  | none => true
  | some s => s.names.lookup x == some .cell
structure CO (P : Prog) (n : Nat) (t : TC) (X : Cx) : Prop where
  xc : XC P n (kwsOf t.kwl) t.N t.sc X
  xe : X.xe = fun _ _ => False
  fn : ∀ x, fnB t x = true → X.fn x = true
  fs : ∀ f ∈ t.fs, ∃ fd, P.lookup f = some fd
/-- a condition ahead of what follows -/
def gd {α : Type} (b : Bool) (o : Option α) : Option α := if b then o else none
theorem gd_some {α : Type} {b : Bool} {o : Option α} {x : α} (h : gd b o = some x) : b = true ∧ o = some x := by
  unfold gd at h
  split at h
  · exact ⟨by assumption, h⟩
  · cases h
def bo {α β : Type} (o : Option α) (f : α → Option β) : Option β := match o with
  | some a => f a
  | none => none
theorem bo_some {α β : Type} {o : Option α} {f : α → Option β} {y : β} (h : bo o f = some y) : ∃ a, o = some a ∧ f a = some y := by
  cases o with
  | none => cases h
  | some a => exact ⟨a, rfl, h⟩
theorem ok_some {α : Type} {x y : α} (h : some x = some y) : x = y := by cases h; rfl

def idx (N : List Str) (x : Str) : Option Nat := bo (N.findIdx? (· == x)) fun i => gd (decide (N[i]? = some x)) (some i)
theorem idx_ok {N : List Str} {x : Str} {i : Nat} (h : idx N x = some i) : N[i]? = some x := by
  obtain ⟨j, _, h⟩ := bo_some h
  obtain ⟨h1, h2⟩ := gd_some h
  cases h2
  exact of_decide_eq_true h1
def plainName (x : Str) : Bool := !(x == ("__debug__" : Str)) && !(x == ("__classdict__" : Str))
def visB (sc : Scope) (x : Str) : Bool := match sc.names.lookup x with
  | some .local => true
  | some .cell => true
  | some .free => true
  | _ => false
theorem visB_ok {sc : Scope} {x : Str} (h : visB sc x = true) : Vis sc x := by
  unfold visB at h
  split at h <;> first | exact .inl (by assumption) | exact .inr (.inl (by assumption)) | exact .inr (.inr (by assumption)) | cases h
def locB (t : TC) (x : Str) : Bool := match t.sc.names.lookup x with
  | some .local => true
  | some .cell => fnB t x
  | _ => false
def isLocal (sc : Scope) (x : Str) : Bool := match sc.names.lookup x with
  | some .local => true
  | _ => false
theorem isLocal_ok {sc : Scope} {x : Str} (h : isLocal sc x = true) : sc.names.lookup x = some .local := by
  unfold isLocal at h
  split at h
  · assumption
  · cases h
def glB (sc : Scope) (x : Str) : Bool := match sc.names.lookup x with
  | some .globalImplicit => true
  | _ => false
section
variable {P : Prog} {n : Nat} {t : TC} {X : Cx} {x : Str}
theorem CO.loc (hx : CO P n t X) (h : locB t x = true) : Loc X.env.scope x ∧ (X.fn x = true ∨ X.env.scope.names.lookup x = some .local) := by
  rw [hx.xc.scope]
  unfold locB at h
  split at h
  · exact ⟨.inl (by assumption), .inr (by assumption)⟩
  · exact ⟨.inr (by assumption), .inl (hx.fn x h)⟩
  · cases h
theorem CO.vis (hx : CO P n t X) (h : visB t.sc x = true) : Vis X.env.scope x := by
  rw [hx.xc.scope]
  exact visB_ok h
theorem CO.gl (hx : CO P n t X) (h : glB t.sc x = true) : Gl X x := by
  show X.env.scope.names.lookup x = some .globalImplicit
  rw [hx.xc.scope]
  unfold glB at h
  split at h
  · assumption
  · cases h
theorem CO.ix (hx : CO P n t X) {i : Nat} (h : idx t.N x = some i) : X.N[i]? = some x := by
  rw [hx.xc.names]
  exact idx_ok h
theorem CO.hu (hx : CO P n t X) : X.A.units + 65 < cLine := by
  have := hx.xc.room.un
  omega
theorem CO.nd (hx : CO P n t X) : X.N.Nodup := by
  rw [hx.xc.names]
  exact hx.xc.nd
theorem plain_ok (h : plainName x = true) : (x == ("__debug__" : Str)) = false ∧ (x == ("__classdict__" : Str)) = false := by
  unfold plainName at h
  simpa only [Bool.and_eq_true, Bool.not_eq_true'] using h
end

/-! ### lists of expressions -/
def mapEs (f : Expr → Option E) : List Expr → Option Es
  | [] => some .nil
  | e :: es => gd (!isStar e) (bo (f e) fun ie => bo (mapEs f es) fun fs => some (.cons ie fs))
def mapKs (f : Expr → Option E) : List Keyword → Option Es
  | [] => some .nil
  | k :: ks => bo (f k.value) fun ie => bo (mapKs f ks) fun fs => some (.cons ie fs)
def allBi : List Bi := [.len, .all, .any, .tuple, .list, .int, .sum, .min, .max, .abs, .sorted]
def allTy : List Ty := [.int, .bool, .str, .tuple, .list]
def findFn (fs : List String) (x : Str) : Option String := fs.find? fun f => Str.ofString f == x
def findBi (x : Str) : Option Bi := allBi.find? fun b => biName b == x
def findTy (x : Str) : Option Ty := allTy.find? fun b => Str.ofString (tyName b) == x
def argStr (l : List String) (x : Str) : Option String := l.find? fun f => Str.ofString f == x

/-! ### targets, sources -/
def nmIx (t : TC) : List Expr → Option (List Nat)
  | [] => some []
  | .Name x _ :: es => gd (locB t x) (bo (idx t.N x) fun i => bo (nmIx t es) fun is => some (i :: is))
  | _ :: _ => none
def cTg (t : TC) : Expr → Option Tg
  | .Name x _ => gd (locB t x) (bo (idx t.N x) fun i => some (.nm i))
  | .Tuple es _ _ => bo (nmIx t es) fun is => some (.tp is)
  | _ => none
def isSet : Expr → Bool
  | .Set _ _ _ => true
  | _ => false
def isTupE : Expr → Bool
  | .Tuple _ _ _ => true
  | _ => false
def rngName : Str := "range"
def zipName : Str := "zip"
def enumName : Str := "enumerate"
def isiName : Str := "isinstance"
def cSrc (f : Expr → Option E) (t : TC) (tg : Expr) (e : Expr) : Option Src := match e with
  | .Call (.Name x _) [a] [] _ =>
    if x = rngName then gd (glB t.sc rngName && !isStar a) (bo (f a) fun ia => some (.rng1 ia))
    else if x = enumName then gd (glB t.sc enumName && !isStar a && isTupE tg) (bo (f a) fun ia => some (.enum ia))
    else bo (f e) fun ie => some (.seq ie)
  | .Call (.Name x _) [a, b] [] _ =>
    if x = rngName then gd (glB t.sc rngName && !isStar a && !isStar b) (bo (f a) fun ia => bo (f b) fun ib => some (.rng2 ia ib))
    else if x = zipName then gd (glB t.sc zipName && !isStar a && !isStar b && isTupE tg) (bo (f a) fun ia => bo (f b) fun ib => some (.zip ia ib))
    else bo (f e) fun ie => some (.seq ie)
  | e => gd (!isSet e) (bo (f e) fun ie => some (.seq ie))

/-! ### expressions -/
def andE (f : Expr → Option E) : List Expr → Option E
  | [] => none
  | [a] => f a
  | a :: b :: r => bo (f a) fun ia => bo (andE f (b :: r)) fun ib => some (.and ia ib)
def orE (f : Expr → Option E) : List Expr → Option E
  | [] => none
  | [a] => f a
  | a :: b :: r => bo (f a) fun ia => bo (orE f (b :: r)) fun ib => some (.or ia ib)
def isNon : Expr → Bool
  | .Constant .none _ _ => true
  | _ => false
def isBlC : Expr → Bool
  | .Constant (.bool _) _ _ => true
  | _ => false
def cCmp (f : Expr → Option E) (a : Expr) (op : CmpOp) (b : Expr) : Option E := match op with
  | .Is => if isNon b then bo (f a) fun ia => some (.isN ia) else gd (isBlC b) (bo (f a) fun ia => bo (f b) fun ib => some (.cmp .Is ia ib))
  | .IsNot => if isNon b then bo (f a) fun ia => some (.notN ia) else gd (isBlC b) (bo (f a) fun ia => bo (f b) fun ib => some (.cmp .IsNot ia ib))
  | op => gd (!behindInMarks op b) (bo (f a) fun ia => bo (f b) fun ib => some (.cmp op ia ib))
def isM1 : Expr → Bool
  | .UnaryOp .USub (.Constant (.int i) _ _) _ => decide (i = 1)
  | _ => false
def cSub (f : Expr → Option E) (a b : Expr) : Option E := match b with
  | .Slice none none none _ => bo (f a) fun ia => some (.sl00 ia)
  | .Slice (some l) none none _ => bo (f a) fun ia => bo (f l) fun il => some (.sl10 ia il)
  | .Slice none (some h) none _ => bo (f a) fun ia => bo (f h) fun ih => some (.sl01 ia ih)
  | .Slice (some l) (some h) none _ => bo (f a) fun ia => bo (f l) fun il => bo (f h) fun ih => some (.sl11 ia il ih)
  | .Slice none none (some s) _ => gd (isM1 s) (bo (f a) fun ia => some (.rev ia))
  | b => gd (!isSlice b) (bo (f a) fun ia => bo (f b) fun ib => some (.ix ia ib))
def kwNames (l : List (String × Nat × List String × List Nat)) (f : String) (m : Nat) (kw : List Keyword) : Option (List String × List Nat) :=
  bo ((kwsOf l f).find? fun q => decide (q.1 = m) && decide (kw.map (·.arg) = (q.2.1.map Str.ofString).map some)) fun q => some q.2
/-- list(range(..)), tuple(range(..)) -/
def rgOf (x : Str) : Option Bool := if x = rgNm false then some false else if x = rgNm true then some true else none
def rgArgs (es : List Expr) (kw : List Keyword) : List Expr := match es, kw with
  | [.Call (.Name y _) ra [] _], [] => if y = rngName then ra else []
  | _, _ => []
def cRg (f : Expr → Option E) (t : TC) (tup : Bool) (ra : List Expr) : Option E := match ra with
  | [a] => gd (glB t.sc (rgNm tup) && glB t.sc rngName && !isStar a) (bo (f a) fun ia => some (.rgl1 tup ia))
  | [a, b] => gd (glB t.sc (rgNm tup) && glB t.sc rngName && !isStar a && !isStar b) (bo (f a) fun ia => bo (f b) fun ib => some (.rgl2 tup ia ib))
  | _ => none
/-- methods -/
def popName : Str := "pop"
def appName : Str := "append"
def extName : Str := "extend"
def cMut (f : Expr → Option E) (t : TC) (x nm : Str) (es : List Expr) (line : Bool) : Option E :=
  gd (visB t.sc x && plainName x && line) (bo (idx t.N x) fun i => match es with
    | [] => gd (decide (nm = popName)) (some (.mut .pop i .nil))
    | [e] => gd (!isStar e) (if nm = appName then bo (mapEs f [e]) fun fs => some (.mut .append i fs) else if nm = popName then bo (mapEs f [e]) fun fs => some (.mut .popAt i fs) else if nm = extName then bo (mapEs f [e]) fun fs => some (.mut .extend i fs) else none)
    | _ => none)
/-- len(set(..)), sorted(set(..)) -/
def setName : Str := "set"
def lenName : Str := "len"
def sortedName : Str := "sorted"
def setArg (es : List Expr) (kw : List Keyword) : Option Expr := match es, kw with
  | [.Call (.Name y _) [a] [] _], [] => if y = setName then some a else none
  | _, _ => none
def cSet (f : Expr → Option E) (t : TC) (x : Str) (a : Expr) : Option E :=
  if x = lenName then gd (glB t.sc lenName && glB t.sc setName && !isStar a) (bo (f a) fun ia => some (.lenset ia))
  else if x = sortedName then gd (glB t.sc sortedName && glB t.sc setName && !isStar a) (bo (f a) fun ia => some (.sortset ia))
  else none
def cCall (f : Expr → Option E) (t : TC) (x : Str) (es : List Expr) (kw : List Keyword) : Option E :=
  match findFn t.fs x with
  | some g => gd (glB t.sc (Str.ofString g) && plainName (Str.ofString g) && decide (Str.ofString g = x)) (match kw with
    | [] => bo (mapEs f es) fun fs => some (.call g fs)
    | kw => bo (kwNames t.kwl g es.length kw) fun q => bo (mapEs f es) fun fs => bo (mapKs f kw) fun ks => some (.callk g fs ks q.1 q.2))
  | none => if x = isiName then (match es, kw with
      | [e, .Name y _], [] => bo (findTy y) fun ty => gd (glB t.sc isiName && glB t.sc (Str.ofString (tyName ty)) && !isStar e && decide (Str.ofString (tyName ty) = y)) (bo (f e) fun ie => some (.isi ie ty))
      | [e, .Tuple [.Name y _, .Name z _] _ _], [] => bo (findTy y) fun ty => bo (findTy z) fun tz => gd (glB t.sc isiName && glB t.sc (Str.ofString (tyName ty)) && glB t.sc (Str.ofString (tyName tz)) && !isStar e && decide (Str.ofString (tyName ty) = y) && decide (Str.ofString (tyName tz) = z)) (bo (f e) fun ie => some (.isi2 ie ty tz))
      | _, _ => none)
    else match setArg es kw with
    | some a => cSet f t x a
    | none => match (rgArgs es kw).isEmpty, rgOf x with
    | false, some tup => cRg f t tup (rgArgs es kw)
    | _, _ => bo (findBi x) fun b => gd (glB t.sc (biName b) && decide (biName b = x)) (match es, kw with
      | e :: es, [] => bo (mapEs f (e :: es)) fun fs => some (.bi b fs)
      | _, _ => none)
/-- the block of a comprehension -/
def ownOf (N : List Str) (scope : Scope) : List (Str × Nat) := scope.names.filterMap fun q => match q.2 with
  | .local => (idx N q.1).map fun i => (q.1, i)
  | .cell => (idx N q.1).map fun i => (q.1, i)
  | _ => none
def inBlk (t : TC) (scope : Scope) : TC := { t with sc := relS scope t.sc, blk := some scope, keep := [] }
def cComp (fE : TC → Expr → Option E) (fT : TC → Expr → Option T) (t : TC) (elt : Expr) (g : Comprehension) (scope : Scope) : Option E := match g with
  | ⟨tg, iter, ifs, a⟩ => gd (decide (a = 0) && blkC t.N t.sc scope (ownOf t.N scope) && !isSet iter) (
    bo (cTg (inBlk t scope) tg) fun itg => bo (cSrc (fE t) t tg iter) fun is => bo (fE (inBlk t scope) elt) fun ie =>
    gd ((tgIdx itg).all fun i => ((ownOf t.N scope).map (·.2)).contains i) (match ifs with
    | [] => some (.comp ie itg is ((ownOf t.N scope).map (·.2)))
    | [c] => bo (fT (inBlk t scope) c) fun it => some (.compif ie itg is it ((ownOf t.N scope).map (·.2)))
    | _ => none))
/-- two sources -/
def cComp2 (fE : TC → Expr → Option E) (t : TC) (elt : Expr) (g g1 : Comprehension) (scope : Scope) : Option E := match g, g1 with
  | ⟨tg, iter, [], a⟩, ⟨tg1, iter1, [], a1⟩ => gd (decide (a = 0) && decide (a1 = 0) && blkC t.N t.sc scope (ownOf t.N scope) && !isSet iter && !isSet iter1) (
    bo (cTg (inBlk t scope) tg) fun itg => bo (cSrc (fE t) t tg iter) fun is => bo (cTg (inBlk t scope) tg1) fun itg1 => bo (cSrc (fE (inBlk t scope)) (inBlk t scope) tg1 iter1) fun is1 => bo (fE (inBlk t scope) elt) fun ie =>
    gd (((tgIdx itg).all fun i => ((ownOf t.N scope).map (·.2)).contains i) && ((tgIdx itg1).all fun i => ((ownOf t.N scope).map (·.2)).contains i)) (some (.comp2 ie itg is itg1 is1 ((ownOf t.N scope).map (·.2)) (tgIdx itg1))))
  | _, _ => none
def cEf (fE : TC → Expr → Option E) (fT : TC → Expr → Option T) (t : TC) (e : Expr) : Option E := match e with
  | .Name x _ => gd (visB t.sc x && plainName x) (bo (idx t.N x) fun i => some (.nm i))
  | .Constant (.int i) _ _ => some (.c (.int i))
  | .Constant (.bool i) _ _ => some (.c (.bool i))
  | .Constant (.str i) _ _ => some (.c (.str i))
  | .Constant .none _ _ => some (.c .none)
  | .Tuple es _ _ => bo (mapEs (fE t) es) fun fs => some (.tup fs)
  | .List es _ => bo (mapEs (fE t) es) fun fs => some (.lst fs)
  | .BinOp a op b _ => bo (fE t a) fun ia => bo (fE t b) fun ib => some (.bin op ia ib)
  | .UnaryOp .USub a _ => bo (fE t a) fun ia => some (.neg ia)
  | .UnaryOp .Not a _ => bo (fE t a) fun ia => some (.not ia)
  | .BoolOp .And es _ => andE (fE t) es
  | .BoolOp .Or es _ => orE (fE t) es
  | .Compare a [op] [b] _ => cCmp (fE t) a op b
  | .Compare a [op, op2] [b, c] _ => gd (!lastMarks [op, op2] [b, c]) (bo (fE t a) fun ia => bo (fE t b) fun ib => bo (fE t c) fun ic => some (.chain op op2 ia ib ic))
  | .IfExp c a b _ => bo (fT t c) fun ic => bo (fE t a) fun ia => bo (fE t b) fun ib => some (.ife ic ia ib)
  | .Subscript a b _ => cSub (fE t) a b
  | .Call (.Name x _) es kw _ => cCall (fE t) t x es kw
  | .Call (.Attribute (.Name x _) nm apos) es [] pos => cMut (fE t) t x nm es (apos.endLine == pos.line)
  | .ListComp elt [g] scope _ => cComp fE fT t elt g scope
  | .ListComp elt [g, g1] scope _ => cComp2 fE t elt g g1 scope
  | _ => none

/-! ### tests -/
def andT (f : Expr → Option T) : List Expr → Option T
  | [] => none
  | [a] => f a
  | a :: b :: r => bo (f a) fun ia => bo (andT f (b :: r)) fun ib => some (.and ia ib)
def orT (f : Expr → Option T) : List Expr → Option T
  | [] => none
  | [a] => f a
  | a :: b :: r => bo (f a) fun ia => bo (orT f (b :: r)) fun ib => some (.or ia ib)
/-- tests that are read as values -/
def valT : Expr → Bool
  | .Name _ _ => true
  | .Constant _ _ _ => true
  | .Call _ _ _ _ => true
  | .Subscript _ _ _ => true
  | .BinOp _ _ _ _ => true
  | .Tuple _ _ _ => true
  | .List _ _ => true
  | _ => false
def cTf (fE : TC → Expr → Option E) (fT : TC → Expr → Option T) (t : TC) (e : Expr) : Option T := match e with
  | .UnaryOp .Not a _ => bo (fT t a) fun ia => some (.not ia)
  | .BoolOp .And es _ => andT (fT t) es
  | .BoolOp .Or es _ => orT (fT t) es
  | .Compare a [op] [b] _ => bo (cCmp (fE t) a op b) fun i => some (.val i)
  | .Compare a [op, op2] [b, c] _ => gd (!lastMarks [op, op2] [b, c]) (bo (fE t a) fun ia => bo (fE t b) fun ib => bo (fE t c) fun ic => some (.val (.chain op op2 ia ib ic)))
  | e => gd (valT e) (bo (fE t e) fun ie => some (.val ie))
def cET : Nat → (TC → Expr → Option E) × (TC → Expr → Option T)
  | 0 => (fun _ _ => none, fun _ _ => none)
  | k + 1 => (cEf (cET k).1 (cET k).2, cTf (cET k).1 (cET k).2)
end PX
/-! PX, part o: the form answers to the text, expressions. -/
namespace PX
open PySem PySem.Spec PyProof.Rows L2

section
variable (P : Prog) (n : Nat)
def SE (f : TC → Expr → Option E) : Prop := ∀ (t : TC) (X : Cx) (e : Expr) (ie : E) (c : FC), CO P n t X → f t e = some ie → PE X e (RE X.K c W0 (evE (callN P n) (lentIn P) ie))
def STt (f : TC → Expr → Option T) : Prop := ∀ (t : TC) (X : Cx) (e : Expr) (ie : T) (c : FC), CO P n t X → f t e = some ie → PT X e (RT X.K c W0 (evT (callN P n) (lentIn P) ie))
end
section
variable {P : Prog} {n : Nat} {t : TC} {X : Cx} {c : FC} {f : Expr → Option E}
/-- f's forms answer in this context -/
def FE (P : Prog) (n : Nat) (X : Cx) (c : FC) (f : Expr → Option E) : Prop := ∀ (e : Expr) (ie : E), f e = some ie → PE X e (RE X.K c W0 (evE (callN P n) (lentIn P) ie))
def FT (P : Prog) (n : Nat) (X : Cx) (c : FC) (f : Expr → Option T) : Prop := ∀ (e : Expr) (ie : T), f e = some ie → PT X e (RT X.K c W0 (evT (callN P n) (lentIn P) ie))

theorem mapEs_ok (hf : FE P n X c f) : ∀ {es : List Expr} {fs : Es}, mapEs f es = some fs → PA X es (RA X.K c W0 (evEs (callN P n) (lentIn P) fs)) ∧ es.all (fun e => !isStar e) = true ∧ fs.len = es.length
  | [], fs, h => by cases h; exact ⟨a_nil _ _, rfl, rfl⟩
  | e :: es, fs, h => by
    replace h := gd_some h; obtain ⟨h1, h⟩ := h
    replace h := bo_some h; obtain ⟨ie, h2, h⟩ := h
    replace h := bo_some h; obtain ⟨gs, h3, h⟩ := h
    cases h
    obtain ⟨i1, i2, i3⟩ := mapEs_ok hf h3
    have h1' : isStar e = false := by simpa using h1
    exact ⟨a_cons _ _ (notStar h1') (hf e ie h2) i1, by rw [List.all_cons, i2, h1]; rfl, congrArg Nat.succ i3⟩
theorem mapKs_ok (hf : FE P n X c f) : ∀ {es : List Keyword} {fs : Es}, mapKs f es = some fs → PK X es (RA X.K c W0 (evEs (callN P n) (lentIn P) fs))
  | [], fs, h => by cases h; exact k_nil
  | ⟨a, e, q⟩ :: es, fs, h => by
    replace h := bo_some h; obtain ⟨ie, h2, h⟩ := h
    replace h := bo_some h; obtain ⟨gs, h3, h⟩ := h
    cases h
    exact k_cons (hf e ie h2) (mapKs_ok hf h3)
theorem nmIx_ok (hx : CO P n t X) : ∀ {es : List Expr} {is : List Nat}, nmIx t es = some is → Nms X es is
  | [], is, h => by cases h; exact .nil
  | e :: es, is, h => by
    cases e <;> first | cases h | skip
    rename_i x p
    replace h := gd_some h; obtain ⟨h1, h⟩ := h
    replace h := bo_some h; obtain ⟨i, h2, h⟩ := h
    replace h := bo_some h; obtain ⟨js, h3, h⟩ := h
    cases h
    obtain ⟨l1, l2⟩ := hx.loc h1
    exact .cons (hx.ix h2) l1 l2 (nmIx_ok hx h3)
theorem cTg_ok (hx : CO P n t X) {tg : Expr} {it : Tg} (h : cTg t tg = some it) : PG X tg (RGt X.K c it) := by
  unfold cTg at h
  split at h
  · replace h := gd_some h; obtain ⟨h1, h⟩ := h
    replace h := bo_some h; obtain ⟨i, h2, h⟩ := h
    cases h
    obtain ⟨l1, l2⟩ := hx.loc h1
    exact g_nm hx.nd (hx.ix h2) l1 l2
  · replace h := bo_some h; obtain ⟨is, h2, h⟩ := h
    cases h
    exact g_tp hx.xc.calm hx.nd (nmIx_ok hx h2)
  · cases h
theorem tup_of {tg : Expr} (h : isTupE tg = true) : ∃ es k p, tg = .Tuple es k p := by
  cases tg <;> first | exact ⟨_, _, _, rfl⟩ | cases h
theorem cSrc_ok (hx : CO P n t X) (hf : FE P n X c f) {tg e : Expr} {is : Src} (h : cSrc f t tg e = some is) : PI X tg e (RI X.K c (evSrc (callN P n) (lentIn P) is)) := by
  unfold cSrc at h
  split at h
  · rename_i x px a pos
    split at h
    · rename_i ex
      subst ex
      replace h := gd_some h; obtain ⟨h1, h⟩ := h
      replace h := bo_some h; obtain ⟨ia, h2, h⟩ := h
      cases h
      simp only [Bool.and_eq_true, Bool.not_eq_true'] at h1
      exact s_rng1 hx.xc (hx.gl h1.1) h1.2 (hf _ _ h2)
    · split at h
      · rename_i ex
        subst ex
        replace h := gd_some h; obtain ⟨h1, h⟩ := h
        replace h := bo_some h; obtain ⟨ia, h2, h⟩ := h
        cases h
        simp only [Bool.and_eq_true, Bool.not_eq_true'] at h1
        obtain ⟨es, k, p, rfl⟩ := tup_of h1.2
        exact s_enum hx.xc (hx.gl h1.1.1) h1.1.2 (hf _ _ h2)
      · replace h := bo_some h; obtain ⟨ia, h2, h⟩ := h
        cases h
        exact s_seq (hf _ _ h2)
  · rename_i x px a b pos
    split at h
    · rename_i ex
      subst ex
      replace h := gd_some h; obtain ⟨h1, h⟩ := h
      replace h := bo_some h; obtain ⟨ia, h2, h⟩ := h
      replace h := bo_some h; obtain ⟨ib, h3, h⟩ := h
      cases h
      simp only [Bool.and_eq_true, Bool.not_eq_true'] at h1
      exact s_rng2 hx.xc (hx.gl h1.1.1) h1.1.2 h1.2 (hf _ _ h2) (hf _ _ h3)
    · split at h
      · rename_i ex
        subst ex
        replace h := gd_some h; obtain ⟨h1, h⟩ := h
        replace h := bo_some h; obtain ⟨ia, h2, h⟩ := h
        replace h := bo_some h; obtain ⟨ib, h3, h⟩ := h
        cases h
        simp only [Bool.and_eq_true, Bool.not_eq_true'] at h1
        obtain ⟨es, k, p, rfl⟩ := tup_of h1.2
        exact s_zip hx.xc (hx.gl h1.1.1.1) h1.1.1.2 h1.1.2 (hf _ _ h2) (hf _ _ h3)
      · replace h := bo_some h; obtain ⟨ia, h2, h⟩ := h
        cases h
        exact s_seq (hf _ _ h2)
  · replace h := gd_some h; obtain ⟨h1, h⟩ := h
    replace h := bo_some h; obtain ⟨ia, h2, h⟩ := h
    cases h
    exact s_seq (hf _ _ h2)
theorem folded_ok {iter : Expr} {env : PySem.Env} (h : isSet iter = false) (x : Value) : foldedSetIterable iter env x = pure x := by
  cases iter <;> first | rfl | cases h
theorem andE_ok {pos : Pos} (hf : FE P n X c f) : ∀ {es : List Expr} {ie : E}, andE f es = some ie → PE X (.BoolOp .And es pos) (RE X.K c W0 (evE (callN P n) (lentIn P) ie))
  | [], ie, h => by cases h
  | [a], ie, h => pe_one (hf _ _ h)
  | a :: b :: r, ie, h => by
    replace h := bo_some h; obtain ⟨ia, h2, h⟩ := h
    replace h := bo_some h; obtain ⟨ib, h3, h⟩ := h
    cases h
    exact e_and _ _ (hf _ _ h2) (andE_ok hf h3)
theorem orE_ok {pos : Pos} (hf : FE P n X c f) : ∀ {es : List Expr} {ie : E}, orE f es = some ie → PE X (.BoolOp .Or es pos) (RE X.K c W0 (evE (callN P n) (lentIn P) ie))
  | [], ie, h => by cases h
  | [a], ie, h => pe_one (hf _ _ h)
  | a :: b :: r, ie, h => by
    replace h := bo_some h; obtain ⟨ia, h2, h⟩ := h
    replace h := bo_some h; obtain ⟨ib, h3, h⟩ := h
    cases h
    exact e_or _ _ (hf _ _ h2) (orE_ok hf h3)
theorem isNon_of {e : Expr} (h : isNon e = true) : ∃ j p, e = .Constant .none j p := by
  unfold isNon at h
  split at h
  · exact ⟨_, _, rfl⟩
  · cases h
theorem cCmp_ok {pos : Pos} (hx : CO P n t X) (hf : FE P n X c f) {a b : Expr} {op : CmpOp} {ie : E} (h : cCmp f a op b = some ie) :
    PE X (.Compare a [op] [b] pos) (RE X.K c W0 (evE (callN P n) (lentIn P) ie)) ∧ PT X (.Compare a [op] [b] pos) (RT X.K c W0 (evT (callN P n) (lentIn P) (.val ie))) := by
  unfold cCmp at h
  split at h
  · split at h
    · rename_i h1
      replace h := bo_some h; obtain ⟨ia, h2, h⟩ := h
      cases h
      obtain ⟨j, p, rfl⟩ := isNon_of h1
      exact ⟨e_isN _ _ (hf _ _ h2), t_isN (hf _ _ h2)⟩
    · replace h := gd_some h; obtain ⟨h1, h⟩ := h
      replace h := bo_some h; obtain ⟨ia, h2, h⟩ := h
      replace h := bo_some h; obtain ⟨ib, h3, h⟩ := h
      cases h
      exact ⟨e_cmp _ _ hx.hu (hf _ _ h2) (hf _ _ h3) (nomark b), t_cmp _ _ hx.hu (hf _ _ h2) (hf _ _ h3) (nomark b)⟩
  · split at h
    · rename_i h1
      replace h := bo_some h; obtain ⟨ia, h2, h⟩ := h
      cases h
      obtain ⟨j, p, rfl⟩ := isNon_of h1
      exact ⟨e_notN _ _ (hf _ _ h2), t_notN (hf _ _ h2)⟩
    · replace h := gd_some h; obtain ⟨h1, h⟩ := h
      replace h := bo_some h; obtain ⟨ia, h2, h⟩ := h
      replace h := bo_some h; obtain ⟨ib, h3, h⟩ := h
      cases h
      exact ⟨e_cmp _ _ hx.hu (hf _ _ h2) (hf _ _ h3) (nomark b), t_cmp _ _ hx.hu (hf _ _ h2) (hf _ _ h3) (nomark b)⟩
  · replace h := gd_some h; obtain ⟨h1, h⟩ := h
    replace h := bo_some h; obtain ⟨ia, h2, h⟩ := h
    replace h := bo_some h; obtain ⟨ib, h3, h⟩ := h
    cases h
    have h1 : behindInMarks op b = false := by simpa using h1
    exact ⟨e_cmp _ _ hx.hu (hf _ _ h2) (hf _ _ h3) h1, t_cmp _ _ hx.hu (hf _ _ h2) (hf _ _ h3) h1⟩
theorem isM1_of {e : Expr} (h : isM1 e = true) : ∃ k p1 p2, e = .UnaryOp .USub (.Constant (.int 1) k p1) p2 := by
  unfold isM1 at h
  split at h
  · cases of_decide_eq_true h
    exact ⟨_, _, _, rfl⟩
  · cases h
theorem cSub_ok {pos : Pos} (hf : FE P n X c f) {a b : Expr} {ie : E} (h : cSub f a b = some ie) : PE X (.Subscript a b pos) (RE X.K c W0 (evE (callN P n) (lentIn P) ie)) := by
  unfold cSub at h
  split at h
  · replace h := bo_some h; obtain ⟨ia, h2, h⟩ := h
    cases h
    exact e_sl00 (hf _ _ h2)
  · replace h := bo_some h; obtain ⟨ia, h2, h⟩ := h
    replace h := bo_some h; obtain ⟨il, h3, h⟩ := h
    cases h
    exact e_sl10 (hf _ _ h2) (hf _ _ h3)
  · replace h := bo_some h; obtain ⟨ia, h2, h⟩ := h
    replace h := bo_some h; obtain ⟨il, h3, h⟩ := h
    cases h
    exact e_sl01 (hf _ _ h2) (hf _ _ h3)
  · replace h := bo_some h; obtain ⟨ia, h2, h⟩ := h
    replace h := bo_some h; obtain ⟨il, h3, h⟩ := h
    replace h := bo_some h; obtain ⟨ih, h4, h⟩ := h
    cases h
    exact e_sl11 (hf _ _ h2) (hf _ _ h3) (hf _ _ h4)
  · replace h := gd_some h; obtain ⟨h1, h⟩ := h
    replace h := bo_some h; obtain ⟨ia, h2, h⟩ := h
    cases h
    obtain ⟨k, p1, p2, rfl⟩ := isM1_of h1
    exact e_rev (hf _ _ h2)
  · replace h := gd_some h; obtain ⟨h1, h⟩ := h
    replace h := bo_some h; obtain ⟨ia, h2, h⟩ := h
    replace h := bo_some h; obtain ⟨ib, h3, h⟩ := h
    cases h
    exact e_ix _ _ (hf _ _ h2) (hf _ _ h3) (plain_ix (by simpa using h1))
theorem cRg_ok {pos p p2 pos2 : Pos} (hx : CO P n t X) (hf : FE P n X c f) {tup : Bool} {ra : List Expr} {ie : E} (h : cRg f t tup ra = some ie) : PE X (.Call (.Name (rgNm tup) p) [.Call (.Name rngName p2) ra [] pos2] [] pos) (RE X.K c W0 (evE (callN P n) (lentIn P) ie)) := by
  unfold cRg at h
  split at h
  · replace h := gd_some h; obtain ⟨h1, h⟩ := h
    replace h := bo_some h; obtain ⟨ia, h2, h⟩ := h
    cases h
    simp only [Bool.and_eq_true, Bool.not_eq_true'] at h1
    exact e_rgl1 hx.xc tup (hx.gl h1.1.1) (hx.gl h1.1.2) h1.2 (hf _ _ h2)
  · replace h := gd_some h; obtain ⟨h1, h⟩ := h
    replace h := bo_some h; obtain ⟨ia, h2, h⟩ := h
    replace h := bo_some h; obtain ⟨ib, h3, h⟩ := h
    cases h
    simp only [Bool.and_eq_true, Bool.not_eq_true'] at h1
    exact e_rgl2 hx.xc tup (hx.gl h1.1.1.1) (hx.gl h1.1.1.2) h1.1.2 h1.2 (hf _ _ h2) (hf _ _ h3)
  · cases h
theorem rgArgs_of {es : List Expr} {kw : List Keyword} (h : (rgArgs es kw).isEmpty = false) : ∃ p2 pos2, es = [.Call (.Name rngName p2) (rgArgs es kw) [] pos2] ∧ kw = [] := by
  unfold rgArgs at h ⊢
  split at h
  · split at h
    · rename_i e
      subst e
      exact ⟨_, _, by rw [if_pos rfl], rfl⟩
    · cases h
  · cases h
theorem rgOf_some {x : Str} {tup : Bool} (h : rgOf x = some tup) : x = rgNm tup := by
  unfold rgOf at h
  split at h
  · cases h; assumption
  · split at h
    · cases h; assumption
    · cases h
theorem cMut_ok {pos apos p : Pos} (hx : CO P n t X) (hf : FE P n X c f) {x nm : Str} {es : List Expr} {ie : E} (h : cMut f t x nm es (apos.endLine == pos.line) = some ie) : PE X (.Call (.Attribute (.Name x p) nm apos) es [] pos) (RE X.K c W0 (evE (callN P n) (lentIn P) ie)) := by
  unfold cMut at h
  replace h := gd_some h; obtain ⟨h1, h⟩ := h
  simp only [Bool.and_eq_true] at h1
  obtain ⟨⟨k1, k2⟩, k3⟩ := h1
  replace h := bo_some h; obtain ⟨i, h2, h⟩ := h
  split at h
  · replace h := gd_some h; obtain ⟨h3, h⟩ := h
    cases h
    have h3 := of_decide_eq_true h3
    subst h3
    exact e_mut0 (hx.ix h2) (hx.vis k1) (plain_ok k2).1 (plain_ok k2).2 k3
  · replace h := gd_some h; obtain ⟨h3, h⟩ := h
    have h3 : isStar _ = false := (Bool.not_eq_true' _).mp h3
    split at h
    · rename_i e
      subst e
      replace h := bo_some h; obtain ⟨fs, h4, h⟩ := h
      cases h
      exact e_mut1 (m := .append) (.inl rfl) (hx.ix h2) (hx.vis k1) (plain_ok k2).1 (plain_ok k2).2 k3 h3 (mapEs_ok hf h4).1
    · split at h
      · rename_i e
        subst e
        replace h := bo_some h; obtain ⟨fs, h4, h⟩ := h
        cases h
        exact e_mut1 (m := .popAt) (.inr (.inl rfl)) (hx.ix h2) (hx.vis k1) (plain_ok k2).1 (plain_ok k2).2 k3 h3 (mapEs_ok hf h4).1
      · split at h
        · rename_i e
          subst e
          replace h := bo_some h; obtain ⟨fs, h4, h⟩ := h
          cases h
          exact e_mut1 (m := .extend) (.inr (.inr rfl)) (hx.ix h2) (hx.vis k1) (plain_ok k2).1 (plain_ok k2).2 k3 h3 (mapEs_ok hf h4).1
        · cases h
  · cases h
theorem setArg_of {es : List Expr} {kw : List Keyword} {a : Expr} (h : setArg es kw = some a) : ∃ p2 q, es = [.Call (.Name setName p2) [a] [] q] ∧ kw = [] := by
  unfold setArg at h
  split at h
  · split at h
    · rename_i e
      cases h
      subst e
      exact ⟨_, _, rfl, rfl⟩
    · cases h
  · cases h
theorem cSet_ok {pos p p2 q : Pos} (hx : CO P n t X) (hf : FE P n X c f) {x : Str} {a : Expr} {ie : E} (h : cSet f t x a = some ie) : PE X (.Call (.Name x p) [.Call (.Name setName p2) [a] [] q] [] pos) (RE X.K c W0 (evE (callN P n) (lentIn P) ie)) := by
  unfold cSet at h
  split at h
  · rename_i e
    subst e
    replace h := gd_some h; obtain ⟨h1, h⟩ := h
    replace h := bo_some h; obtain ⟨ia, h2, h⟩ := h
    cases h
    simp only [Bool.and_eq_true, Bool.not_eq_true'] at h1
    exact e_lenset hx.xc (hx.gl h1.1.1) (hx.gl h1.1.2) h1.2 (hf _ _ h2)
  · split at h
    · rename_i e
      subst e
      replace h := gd_some h; obtain ⟨h1, h⟩ := h
      replace h := bo_some h; obtain ⟨ia, h2, h⟩ := h
      cases h
      simp only [Bool.and_eq_true, Bool.not_eq_true'] at h1
      exact e_sortset hx.xc (hx.gl h1.1.1) (hx.gl h1.1.2) h1.2 (hf _ _ h2)
    · cases h
theorem cCall_ok {pos p : Pos} (hx : CO P n t X) (hf : FE P n X c f) {x : Str} {es : List Expr} {kw : List Keyword} {ie : E} (h : cCall f t x es kw = some ie) : PE X (.Call (.Name x p) es kw pos) (RE X.K c W0 (evE (callN P n) (lentIn P) ie)) := by
  unfold cCall at h
  split at h
  · rename_i g hg
    replace h := gd_some h; obtain ⟨h1, h⟩ := h
    simp only [Bool.and_eq_true, decide_eq_true_eq] at h1
    obtain ⟨⟨h1, h2⟩, h3⟩ := h1
    subst h3
    have hmem : g ∈ t.fs := List.mem_of_find?_eq_some hg
    obtain ⟨fd, hfd⟩ := hx.fs g hmem
    split at h
    · replace h := bo_some h; obtain ⟨fs, h4, h⟩ := h
      cases h
      obtain ⟨i1, i2, i3⟩ := mapEs_ok hf h4
      cases es with
      | nil =>
        cases h4
        exact e_call0 hx.xc hfd (hx.gl h1) (plain_ok h2).1
      | cons e es => exact e_call hx.xc hfd (hx.gl h1) (plain_ok h2).1 i2 i1
    · replace h := bo_some h; obtain ⟨q, h5, h⟩ := h
      replace h := bo_some h; obtain ⟨fs, h4, h⟩ := h
      replace h := bo_some h; obtain ⟨ks, h6, h⟩ := h
      cases h
      obtain ⟨i1, i2, i3⟩ := mapEs_ok hf h4
      obtain ⟨r, h7, h8⟩ := bo_some h5
      cases h8
      have h9 := List.find?_some h7
      have h10 : r ∈ kwsOf t.kwl g := List.mem_of_find?_eq_some h7
      simp only [Bool.and_eq_true, decide_eq_true_eq] at h9
      obtain ⟨h9, h11⟩ := h9
      exact e_callk hx.xc hfd (hx.gl h1) (plain_ok h2).1 i2 i3 h11 (by rw [← h9]; exact h10) i1 (mapKs_ok hf h6)
  · split at h
    · rename_i ex
      subst ex
      split at h
      · replace h := bo_some h; obtain ⟨ty, h2, h⟩ := h
        replace h := gd_some h; obtain ⟨h1, h⟩ := h
        replace h := bo_some h; obtain ⟨ia, h3, h⟩ := h
        cases h
        simp only [Bool.and_eq_true, Bool.not_eq_true', decide_eq_true_eq] at h1
        obtain ⟨⟨⟨h1, h4⟩, h5⟩, h6⟩ := h1
        subst h6
        exact e_isi hx.xc ty (hx.gl h1) (hx.gl h4) h5 (hf _ _ h3)
      · replace h := bo_some h; obtain ⟨ty, h2, h⟩ := h
        replace h := bo_some h; obtain ⟨tz, h2', h⟩ := h
        replace h := gd_some h; obtain ⟨h1, h⟩ := h
        replace h := bo_some h; obtain ⟨ia, h3, h⟩ := h
        cases h
        simp only [Bool.and_eq_true, Bool.not_eq_true', decide_eq_true_eq] at h1
        obtain ⟨⟨⟨⟨⟨h1, h4⟩, h4'⟩, h5⟩, h6⟩, h7⟩ := h1
        subst h6 h7
        exact e_isi2 hx.xc ty tz (hx.gl h1) (hx.gl h4) (hx.gl h4') h5 (hf _ _ h3)
      · cases h
    · split at h
      · rename_i a hs
        obtain ⟨p2, q, rfl, rfl⟩ := setArg_of hs
        exact cSet_ok hx hf h
      · split at h
        · rename_i tup hre hrg
          obtain ⟨p2, pos2, e1, e2⟩ := rgArgs_of hre
          have e3 := rgOf_some hrg
          have q := cRg_ok (pos := pos) (p := p) (p2 := p2) (pos2 := pos2) hx hf h
          rw [← e1] at q
          rw [e2, e3]
          exact q
        · replace h := bo_some h; obtain ⟨b, h2, h⟩ := h
          replace h := gd_some h; obtain ⟨h1, h⟩ := h
          simp only [Bool.and_eq_true, decide_eq_true_eq] at h1
          obtain ⟨h1, h3⟩ := h1
          subst h3
          split at h
          · replace h := bo_some h; obtain ⟨fs, h4, h⟩ := h
            cases h
            obtain ⟨i1, i2, i3⟩ := mapEs_ok hf h4
            exact e_bi hx.xc b (hx.gl h1) i2 i1
          · cases h
theorem CO.blk (hx : CO P n t X) (s : Shared) (H : Hp) (scope : Scope) (C : Addr) (cl : List (Str × Addr)) (fp : List Addr) : CO P n (inBlk t scope) (X.blk s H scope (compEnvC scope cl C X.env) fp) := by
  refine ⟨⟨hx.xc.calm, hx.xc.names, hx.xc.nd, ?_, hx.xc.room, hx.xc.prog⟩, rfl, fun x h => h, hx.fs⟩
  show relabel scope X.env = relS scope t.sc
  unfold relabel relS
  rw [← hx.xc.scope]
  rfl
theorem cComp_ok {pos : Pos} {fE : TC → Expr → Option E} {fT : TC → Expr → Option T} (hE : SE P n fE) (hT : STt P n fT) (hx : CO P n t X) {elt : Expr} {g : Comprehension} {scope : Scope} {ie : E} (h : cComp fE fT t elt g scope = some ie) :
    PE X (.ListComp elt [g] scope pos) (RE X.K c W0 (evE (callN P n) (lentIn P) ie)) := by
  obtain ⟨tg, iter, ifs, a⟩ := g
  unfold cComp at h
  replace h := gd_some h; obtain ⟨h1, h⟩ := h
  replace h := bo_some h; obtain ⟨itg, h2, h⟩ := h
  replace h := bo_some h; obtain ⟨is, h3, h⟩ := h
  replace h := bo_some h; obtain ⟨ie', h4, h⟩ := h
  replace h := gd_some h; obtain ⟨h5, h⟩ := h
  simp only [Bool.and_eq_true, Bool.not_eq_true', decide_eq_true_eq] at h1
  obtain ⟨⟨rfl, h6⟩, h7⟩ := h1
  have htg : ∀ i ∈ tgIdx itg, i ∈ (ownOf t.N scope).map (·.2) := fun i hi => by
    have := List.all_eq_true.mp h5 i hi
    exact List.contains_iff_mem.mp this
  have ok : BlkOk X.N X.env.scope scope (ownOf t.N scope) := by
    rw [hx.xc.names, hx.xc.scope]
    exact blkOk_by h6
  have hi := cSrc_ok (c := c) hx (fun e ie q => hE t X e ie c hx q) h3
  split at h
  · cases h
    exact e_comp hx.xc.calm hx.nd hi ok (fun s H C cl fp => cTg_ok (hx.blk s H scope C cl fp) h2) (fun s H C cl fp => hE _ _ _ _ c (hx.blk s H scope C cl fp) h4) (folded_ok h7) htg
  · replace h := bo_some h; obtain ⟨it, h8, h⟩ := h
    cases h
    exact e_compif hx.xc.calm hx.nd hi ok (fun s H C cl fp => cTg_ok (hx.blk s H scope C cl fp) h2) (fun s H C cl fp => hT _ _ _ _ c (hx.blk s H scope C cl fp) h8) (fun s H C cl fp => hE _ _ _ _ c (hx.blk s H scope C cl fp) h4) (folded_ok h7) htg
  · cases h
theorem cComp2_parts {c : FC} {fE : TC → Expr → Option E} (hE : SE P n fE) (hx : CO P n t X) {elt : Expr} {g g1 : Comprehension} {scope : Scope} {ie : E} (h : cComp2 fE t elt g g1 scope = some ie) :
    ∃ tg iter tg1 iter1 itg is itg1 is1 ie', g = ⟨tg, iter, [], 0⟩ ∧ g1 = ⟨tg1, iter1, [], 0⟩ ∧ ie = .comp2 ie' itg is itg1 is1 ((ownOf t.N scope).map (·.2)) (tgIdx itg1) ∧ PI X tg iter (RI X.K c (evSrc (callN P n) (lentIn P) is)) ∧ BlkOk X.N X.env.scope scope (ownOf t.N scope) ∧
      (∀ i ∈ tgIdx itg1, i ∈ (ownOf t.N scope).map (·.2)) ∧ (∀ (s : Shared) (H : Hp) (C : Addr) (cl : List (Str × Addr)) (fp : List Addr), PG (X.blk s H scope (compEnvC scope cl C X.env) fp) tg (RGt X.K c itg)) ∧
      (∀ (s : Shared) (H : Hp) (C : Addr) (cl : List (Str × Addr)) (fp : List Addr), PI (X.blk s H scope (compEnvC scope cl C X.env) fp) tg1 iter1 (RI X.K c (evSrc (callN P n) (lentIn P) is1))) ∧
      (∀ (s : Shared) (H : Hp) (C : Addr) (cl : List (Str × Addr)) (fp : List Addr), PG (X.blk s H scope (compEnvC scope cl C X.env) fp) tg1 (RGt X.K c itg1)) ∧
      (∀ (s : Shared) (H : Hp) (C : Addr) (cl : List (Str × Addr)) (fp : List Addr), PE (X.blk s H scope (compEnvC scope cl C X.env) fp) elt (RE X.K c W0 (evE (callN P n) (lentIn P) ie'))) ∧
      (∀ x, foldedSetIterable iter X.env x = pure x) ∧ (∀ env x, foldedSetIterable iter1 env x = pure x) ∧ (∀ i ∈ tgIdx itg, i ∈ (ownOf t.N scope).map (·.2)) := by
  unfold cComp2 at h
  split at h
  · replace h := gd_some h; obtain ⟨h1, h⟩ := h
    replace h := bo_some h; obtain ⟨itg, h2, h⟩ := h
    replace h := bo_some h; obtain ⟨is, h3, h⟩ := h
    replace h := bo_some h; obtain ⟨itg1, h4, h⟩ := h
    replace h := bo_some h; obtain ⟨is1, h5, h⟩ := h
    replace h := bo_some h; obtain ⟨ie', h6, h⟩ := h
    replace h := gd_some h; obtain ⟨h7, h⟩ := h
    cases h
    simp only [Bool.and_eq_true, Bool.not_eq_true', decide_eq_true_eq] at h1 h7
    obtain ⟨⟨⟨⟨rfl, rfl⟩, k1⟩, k2⟩, k3⟩ := h1
    have mem : ∀ {l : List Nat}, (l.all fun i => ((ownOf t.N scope).map (·.2)).contains i) = true → ∀ i ∈ l, i ∈ (ownOf t.N scope).map (·.2) := fun {l} hl i hi => by
      have := List.all_eq_true.mp hl i hi
      exact List.contains_iff_mem.mp this
    have ok : BlkOk X.N X.env.scope scope (ownOf t.N scope) := by
      rw [hx.xc.names, hx.xc.scope]
      exact blkOk_by k1
    exact ⟨_, _, _, _, _, _, _, _, _, rfl, rfl, rfl, cSrc_ok (c := c) hx (fun e ie q => hE t X e ie c hx q) h3, ok, mem h7.2, fun s H C cl fp => cTg_ok (hx.blk s H scope C cl fp) h2,
      fun s H C cl fp => cSrc_ok (c := c) (hx.blk s H scope C cl fp) (fun e ie q => hE _ _ e ie c (hx.blk s H scope C cl fp) q) h5, fun s H C cl fp => cTg_ok (hx.blk s H scope C cl fp) h4, fun s H C cl fp => hE _ _ _ _ c (hx.blk s H scope C cl fp) h6, folded_ok k2, fun env x => folded_ok k3 x, mem h7.1⟩
  · cases h
theorem cComp2_ok {pos : Pos} {c : FC} {fE : TC → Expr → Option E} (hE : SE P n fE) (hx : CO P n t X) {elt : Expr} {g g1 : Comprehension} {scope : Scope} {ie : E} (h : cComp2 fE t elt g g1 scope = some ie) :
    PE X (.ListComp elt [g, g1] scope pos) (RE X.K c W0 (evE (callN P n) (lentIn P) ie)) := by
  obtain ⟨tg, iter, tg1, iter1, itg, is, itg1, is1, ie', rfl, rfl, rfl, a1, a2, a3, a4, a5, a6, a7, a8, a9, a10⟩ := cComp2_parts (c := c) hE hx h
  exact e_comp2 hx.xc.calm hx.nd a1 a2 a3 a4 a5 a6 a7 a8 a9 a10 fun i hi => hi
theorem cEf_ok {fE : TC → Expr → Option E} {fT : TC → Expr → Option T} (hE : SE P n fE) (hT : STt P n fT) : SE P n (cEf fE fT) := by
  intro t X e ie c hx h
  have hf : FE P n X c (fE t) := fun e ie q => hE t X e ie c hx q
  unfold cEf at h
  split at h
  · replace h := gd_some h; obtain ⟨h1, h⟩ := h
    replace h := bo_some h; obtain ⟨i, h2, h⟩ := h
    cases h
    simp only [Bool.and_eq_true] at h1
    exact e_nm _ _ (hx.ix h2) (hx.vis h1.1) (plain_ok h1.2).1 (plain_ok h1.2).2
  · cases h; exact e_int _ _
  · cases h; exact e_bl _ _
  · cases h; exact e_str _ _
  · cases h; exact e_non _ _
  · replace h := bo_some h; obtain ⟨fs, h2, h⟩ := h
    cases h
    exact e_tup _ _ (mapEs_ok hf h2).1
  · replace h := bo_some h; obtain ⟨fs, h2, h⟩ := h
    cases h
    exact e_lst _ _ (mapEs_ok hf h2).1
  · replace h := bo_some h; obtain ⟨ia, h2, h⟩ := h
    replace h := bo_some h; obtain ⟨ib, h3, h⟩ := h
    cases h
    exact e_bin _ _ (hf _ _ h2) (hf _ _ h3)
  · replace h := bo_some h; obtain ⟨ia, h2, h⟩ := h
    cases h
    exact e_neg _ _ (hf _ _ h2)
  · replace h := bo_some h; obtain ⟨ia, h2, h⟩ := h
    cases h
    exact e_not _ _ (hf _ _ h2)
  · exact andE_ok hf h
  · exact orE_ok hf h
  · exact (cCmp_ok hx hf h).1
  · replace h := gd_some h; obtain ⟨h1, h⟩ := h
    replace h := bo_some h; obtain ⟨ia, h2, h⟩ := h
    replace h := bo_some h; obtain ⟨ib, h3, h⟩ := h
    replace h := bo_some h; obtain ⟨ic, h4, h⟩ := h
    cases h
    exact e_chain hx.hu (hf _ _ h2) (hf _ _ h3) (hf _ _ h4) (by simpa using h1)
  · replace h := bo_some h; obtain ⟨ic, h2, h⟩ := h
    replace h := bo_some h; obtain ⟨ia, h3, h⟩ := h
    replace h := bo_some h; obtain ⟨ib, h4, h⟩ := h
    cases h
    exact e_ife _ _ (hT _ _ _ _ _ hx h2) (hf _ _ h3) (hf _ _ h4)
  · exact cSub_ok hf h
  · exact cCall_ok hx hf h
  · exact cMut_ok hx hf h
  · exact cComp_ok hE hT hx h
  · exact cComp2_ok hE hx h
  · cases h
theorem andT_ok {pos : Pos} {f : Expr → Option T} (hf : FT P n X c f) : ∀ {es : List Expr} {ie : T}, andT f es = some ie → PW X (.BoolOp .And es pos) (RT X.K c W0 (evT (callN P n) (lentIn P) ie))
  | [], ie, h => by cases h
  | [a], ie, h => pw_and1 (hf _ _ h)
  | a :: b :: r, ie, h => by
    replace h := bo_some h; obtain ⟨ia, h2, h⟩ := h
    replace h := bo_some h; obtain ⟨ib, h3, h⟩ := h
    cases h
    exact t_and _ _ (hf _ _ h2) (andT_ok hf h3)
theorem orT_ok {pos : Pos} {f : Expr → Option T} (hf : FT P n X c f) : ∀ {es : List Expr} {ie : T}, orT f es = some ie → PW X (.BoolOp .Or es pos) (RT X.K c W0 (evT (callN P n) (lentIn P) ie))
  | [], ie, h => by cases h
  | [a], ie, h => pw_or1 (hf _ _ h)
  | a :: b :: r, ie, h => by
    replace h := bo_some h; obtain ⟨ia, h2, h⟩ := h
    replace h := bo_some h; obtain ⟨ib, h3, h⟩ := h
    cases h
    exact t_or _ _ (hf _ _ h2) (orT_ok hf h3)
theorem cTf_ok {fE : TC → Expr → Option E} {fT : TC → Expr → Option T} (hE : SE P n fE) (hT : STt P n fT) : STt P n (cTf fE fT) := by
  intro t X e ie c hx h
  have hf : FE P n X c (fE t) := fun e ie q => hE t X e ie c hx q
  have hg : FT P n X c (fT t) := fun e ie q => hT t X e ie c hx q
  unfold cTf at h
  split at h
  · replace h := bo_some h; obtain ⟨ia, h2, h⟩ := h
    cases h
    exact t_not _ _ (hg _ _ h2)
  · exact (andT_ok hg h).pt
  · exact (orT_ok hg h).pt
  · replace h := bo_some h; obtain ⟨ia, h2, h⟩ := h
    cases h
    exact (cCmp_ok hx hf h2).2
  · replace h := gd_some h; obtain ⟨h1, h⟩ := h
    replace h := bo_some h; obtain ⟨ia, h2, h⟩ := h
    replace h := bo_some h; obtain ⟨ib, h3, h⟩ := h
    replace h := bo_some h; obtain ⟨ic, h4, h⟩ := h
    cases h
    exact t_chain hx.hu (hf _ _ h2) (hf _ _ h3) (hf _ _ h4) (by simpa using h1)
  · replace h := gd_some h; obtain ⟨h1, h⟩ := h
    replace h := bo_some h; obtain ⟨ie', h2, h⟩ := h
    cases h
    refine t_val _ _ (hf _ _ h2) ?_
    cases e <;> first | exact fun _ => rfl | cases h1
theorem cET_ok : ∀ k : Nat, SE P n (cET k).1 ∧ STt P n (cET k).2
  | 0 => ⟨fun _ _ _ _ _ _ h => (by cases h), fun _ _ _ _ _ _ h => (by cases h)⟩
  | k + 1 => ⟨cEf_ok (cET_ok k).1 (cET_ok k).2, cTf_ok (cET_ok k).1 (cET_ok k).2⟩
end
end PX
/-! PX, part p: from the text to the evaluator's form, statements. -/
namespace PX
open PySem PySem.Spec PyProof.Rows L2

def isCompE : Expr → Bool
  | .ListComp _ _ _ _ => true
  | .SetComp _ _ _ _ => true
  | .DictComp _ _ _ _ _ => true
  | _ => false
theorem swaps_no {e : Expr} (h : isCompE e = false) (tg : Option Expr) (l : Nat) (env : PySem.Env) : swapsWith e tg l env = pure false := by
  cases e <;> first | rfl | cases h
theorem swapsS_no {e : Expr} (h : isCompE e = false) (tg : Expr) (l : Nat) (env : PySem.Env) : swapsWithSole [tg] e l env = pure false := swaps_no h (some tg) l env
/-- the store of a comprehension's list is put into it -/
def swB (t : TC) (x : Str) (px p : Pos) (scope : Scope) : Bool :=
  (match t.sc.kind with | .function => true | _ => false) && isLocal t.sc x && px.line == p.line && !(scope.names.any fun (n, k) => n == x && (k == .local || k == .cell))
/-- no such store -/
def swN (t : TC) (x : Str) (px p : Pos) (scope : Scope) : Bool :=
  !(bkOf t.sc == .function && t.sc.names.lookup x == some .local && px.line == p.line && !(scope.names.any fun (n, k) => n == x && (k == .local || k == .cell)))
def isName : Expr → Bool
  | .Name _ _ => true
  | _ => false
/-- x[i], x[j] = .. -/
def isSw : Expr → Bool
  | .Tuple [.Subscript (.Name _ _) _ _, .Subscript (.Name _ _) _ _] _ _ => true
  | _ => false
def cSw (r : (TC → Expr → Option E) × (TC → Expr → Option T)) (t : TC) (tg e : Expr) : Option S := match tg with
  | .Tuple [.Subscript (.Name x q) ix p, .Subscript (.Name y q2) ix2 p2] _ _ =>
    gd (decide (x = y) && visB t.sc x && plainName x && !isSlice ix && !isSlice ix2 && !isCompE e && (match e with
      | .Tuple vs _ _ => decide (swapC [.Subscript (.Name x q) ix p, .Subscript (.Name y q2) ix2 p2] vs t.sc = some none)
      | _ => false)) (bo (idx t.N x) fun i => bo (r.1 t ix) fun iix => bo (r.1 t ix2) fun iix2 => bo (r.1 t e) fun ie => some (.swapix i iix iix2 ie))
  | _ => none
def cAsg (r : (TC → Expr → Option E) × (TC → Expr → Option T)) (t : TC) (tg e : Expr) : Option S := if isSw tg then cSw r t tg e else match tg with
  | .Name x px => gd (locB t x) (bo (idx t.N x) fun i => match e with
    | .ListComp elt [g] scope p => gd (swB t x px p scope || swN t x px p scope) (bo (cComp r.1 r.2 t elt g scope) fun ie => some (.asg i (t.keep.contains i) ie))
    | .ListComp elt [g, g1] scope p => gd (swB t x px p scope) (bo (cComp2 r.1 t elt g g1 scope) fun ie => some (.asg i (t.keep.contains i) ie))
    | e => gd (!isCompE e) (bo (r.1 t e) fun ie => some (.asg i (t.keep.contains i) ie)))
  | .Tuple ts _ _ => (match e with
    | .Tuple vs _ _ => (match swapC ts vs t.sc with
      | some none => bo (nmIx t ts) fun is => bo (mapEs (r.1 t) vs) fun fs => some (.asgT (.tp is) (.tup fs))
      | some (some _) => (match ts, vs with
        | [.Name x px, .Name y py], [a, b] => gd (decide (swapC [.Name x px, .Name y py] [a, b] t.sc = some (some [x, y])) && isLocal t.sc x && isLocal t.sc y) (
          bo (idx t.N x) fun i => bo (idx t.N y) fun j => gd (decide (i ≠ j)) (bo (mapEs (r.1 t) [a, b]) fun fs => some (.asgT (.tp [i, j]) (.tup fs))))
        | [.Name x px, .Name y py, .Name z pz], [a, b, b2] => gd (decide (swapC [.Name x px, .Name y py, .Name z pz] [a, b, b2] t.sc = some (some [x, y, z])) && isLocal t.sc x && isLocal t.sc y && isLocal t.sc z) (
          bo (idx t.N x) fun i => bo (idx t.N y) fun j => bo (idx t.N z) fun l => gd (decide (i ≠ j) && decide (i ≠ l) && decide (j ≠ l)) (bo (mapEs (r.1 t) [a, b, b2]) fun fs => some (.asgT (.tp [i, j, l]) (.tup fs))))
        | _, _ => none)
      | none => none)
    | e => gd (!isCompE e && !isTupE e) (bo (nmIx t ts) fun is => bo (r.1 t e) fun ie => some (.asgT (.tp is) ie)))
  | .Subscript (.Name x _) ix _ => gd (visB t.sc x && plainName x && !isSlice ix && !isCompE e && !isTupE e) (bo (idx t.N x) fun i => bo (r.1 t ix) fun iix => bo (r.1 t e) fun ie => some (.setix i iix ie))
  | _ => none
def mapSs (f : Stmt → Option S) : List Stmt → Option Ss
  | [] => some .nil
  | s :: ss => bo (f s) fun is => bo (mapSs f ss) fun iss => some (.cons is iss)
def cSf (r : (TC → Expr → Option E) × (TC → Expr → Option T)) (fS : TC → Stmt → Option S) (t : TC) (s : Stmt) : Option S := match s with
  | .Assign [tg] e _ => cAsg r t tg e
  | .AugAssign (.Name x _) op e _ => gd (locB t x) (bo (idx t.N x) fun i => bo (r.1 t e) fun ie => some (.aug i op ie))
  | .AugAssign (.Subscript (.Name x _) ix _) op e _ => gd (visB t.sc x && plainName x && !isSlice ix) (bo (idx t.N x) fun i => bo (r.1 t ix) fun iix => bo (r.1 t e) fun ie => some (.augix i iix op ie))
  | .Expr e _ => gd (!isCompE e) (bo (r.1 t e) fun ie => some (.ex ie))
  | .Return (some e) _ => bo (r.1 t e) fun ie => some (.ret ie)
  | .Return none _ => some .retN
  | .If c a b _ => bo (r.2 t c) fun ic => bo (mapSs (fS t) a) fun ia => bo (mapSs (fS t) b) fun ib => some (.ife ic ia ib)
  | .For tg iter body [] _ => gd (!isSet iter) (bo (cTg t tg) fun itg => bo (cSrc (r.1 t) t tg iter) fun is => bo (mapSs (fS t) body) fun ib => some (.for_ itg is ib))
  | .While c body [] _ => bo (r.2 t c) fun ic => bo (mapSs (fS t) body) fun ib => some (.while_ ic ib)
  | .Pass _ => some .pass
  | .Break _ => some .brk
  | .Continue _ => some .cont
  | .Raise _ _ _ => some .never
  | _ => none
def cS (m : Nat) : Nat → TC → Stmt → Option S
  | 0, _, _ => none
  | k + 1, t, s => cSf (cET m) (cS m k) t s

section
variable {P : Prog} {n : Nat} {t : TC} {X : Cx} {c : FC}
def SS (P : Prog) (n : Nat) (f : TC → Stmt → Option S) : Prop := ∀ (t : TC) (X : Cx) (s : Stmt) (is : S) (c : FC), CO P n t X → f t s = some is → PS X s (RS X.K c W0 (evS (callN P n) (lentIn P) is))
theorem mapSs_ok {f : Stmt → Option S} (hf : ∀ s is, f s = some is → PS X s (RS X.K c W0 (evS (callN P n) (lentIn P) is))) : ∀ {ss : List Stmt} {iss : Ss}, mapSs f ss = some iss → PSs X ss (RS X.K c W0 (evSs (callN P n) (lentIn P) iss))
  | [], iss, h => by cases h; exact b_nil
  | s :: ss, iss, h => by
    replace h := bo_some h; obtain ⟨is, h1, h⟩ := h
    replace h := bo_some h; obtain ⟨iss', h2, h⟩ := h
    cases h
    exact b_cons (hf _ _ h1) (mapSs_ok hf h2)
theorem sw_none {scope : Scope} {elt : Expr} {g : Comprehension} {x : Str} {px p : Pos} {l : Nat} (hx : CO P n t X) (h : swN t x px p scope = true) : swapsWith (.ListComp elt [g] scope p) (some (.Name x px)) l X.env = pure false := by
  have h2 : (X.env.blockKind == .function && X.env.kindOf x == some .local && px.line == p.line && !(scope.names.any fun (n, k) => n == x && (k == .local || k == .cell))) = false := by
    unfold swN at h
    rw [← hx.xc.scope] at h
    exact (Bool.not_eq_true' _).mp h
  show (pure (X.env.blockKind == .function && X.env.kindOf x == some .local && px.line == p.line && !(scope.names.any fun (n, k) => n == x && (k == .local || k == .cell))) : Sem Bool) = pure false
  rw [h2] <;> rfl
theorem swap_nt {ts : List Expr} {k : Nat} {p : Pos} {e : Expr} (h : isTupE e = false) (env : PySem.Env) : swappedStores [.Tuple ts k p] e env = pure none := by
  cases e <;> first | rfl | cases h
theorem swap_sub {o ix : Expr} {p : Pos} {e : Expr} (env : PySem.Env) : swappedStores [.Subscript o ix p] e env = pure none := by
  cases e <;> rfl
theorem cSw_ok {pos : Pos} {r : (TC → Expr → Option E) × (TC → Expr → Option T)} (hE : SE P n r.1) (hx : CO P n t X) {tg e : Expr} {is : S} (h : cSw r t tg e = some is) : PS X (.Assign [tg] e pos) (RS X.K c W0 (evS (callN P n) (lentIn P) is)) := by
  have hf : FE P n X c (r.1 t) := fun e ie q => hE t X e ie c hx q
  unfold cSw at h
  split at h
  · replace h := gd_some h; obtain ⟨h1, h⟩ := h
    replace h := bo_some h; obtain ⟨i, h2, h⟩ := h
    replace h := bo_some h; obtain ⟨iix, h3, h⟩ := h
    replace h := bo_some h; obtain ⟨iix2, h4, h⟩ := h
    replace h := bo_some h; obtain ⟨ie, h5, h⟩ := h
    cases h
    simp only [Bool.and_eq_true, Bool.not_eq_true', decide_eq_true_eq] at h1
    obtain ⟨⟨⟨⟨⟨⟨k0, k1⟩, k2⟩, k3⟩, k4⟩, k5⟩, k6⟩ := h1
    subst k0
    split at k6
    · have k6 := of_decide_eq_true k6
      rw [← hx.xc.scope] at k6
      exact st_swapix hx.xc.calm (hx.ix h2) (hx.vis k1) (plain_ok k2).1 (plain_ok k2).2 k3 k4 (hf _ _ h5) (hf _ _ h3) (hf _ _ h4) (swapsS_no k5 _ _ _) (swapC_ok k6)
    · cases k6
  · cases h
theorem cAsg_ok {pos : Pos} {r : (TC → Expr → Option E) × (TC → Expr → Option T)} (hE : SE P n r.1) (hT : STt P n r.2) (hx : CO P n t X) {tg e : Expr} {is : S} (h : cAsg r t tg e = some is) : PS X (.Assign [tg] e pos) (RS X.K c W0 (evS (callN P n) (lentIn P) is)) := by
  have hf : FE P n X c (r.1 t) := fun e ie q => hE t X e ie c hx q
  unfold cAsg at h
  split at h
  · exact cSw_ok hE hx h
  split at h
  · replace h := gd_some h; obtain ⟨h1, h⟩ := h
    replace h := bo_some h; obtain ⟨i, h2, h⟩ := h
    obtain ⟨l1, l2⟩ := hx.loc h1
    split at h
    · rename_i elt g scope p
      replace h := gd_some h; obtain ⟨h3, h⟩ := h
      replace h := bo_some h; obtain ⟨ie, h4, h⟩ := h
      cases h
      rcases Bool.or_eq_true _ _ ▸ h3 with h3 | h3
      · unfold swB at h3
        simp only [Bool.and_eq_true, Bool.not_eq_true'] at h3
        obtain ⟨⟨⟨k1, k2⟩, k3⟩, k4⟩ := h3
        have hk : X.env.scope.kind = .function := by
          rw [hx.xc.scope]
          split at k1
          · assumption
          · cases k1
        have hl := isLocal_ok k2
        rw [← hx.xc.scope] at hl
        have hsw := sw_true (elt := elt) (gs := [g]) (scope := scope) (pos := p) (py := _) (y := _) (l := pos.line) hk hl k3 k4
        obtain ⟨tg, iter, ifs, a⟩ := g
        unfold cComp at h4
        replace h4 := gd_some h4; obtain ⟨h1, h⟩ := h4
        replace h := bo_some h; obtain ⟨itg, h2', h⟩ := h
        replace h := bo_some h; obtain ⟨is, h3', h⟩ := h
        replace h := bo_some h; obtain ⟨ie', h4, h⟩ := h
        replace h := gd_some h; obtain ⟨h5, h⟩ := h
        simp only [Bool.and_eq_true, Bool.not_eq_true', decide_eq_true_eq] at h1
        obtain ⟨⟨rfl, h6⟩, h7⟩ := h1
        have htg : ∀ i ∈ tgIdx itg, i ∈ (ownOf t.N scope).map (·.2) := fun i hi => by
          have := List.all_eq_true.mp h5 i hi
          exact List.contains_iff_mem.mp this
        have ok : BlkOk X.N X.env.scope scope (ownOf t.N scope) := by
          rw [hx.xc.names, hx.xc.scope]
          exact blkOk_by h6
        have hi := cSrc_ok (c := c) hx hf h3'
        split at h
        · cases h
          exact st_setLc hx.xc.calm hx.nd (hx.ix h2) hl hsw hi ok (fun s H C cl fp => cTg_ok (hx.blk s H scope C cl fp) h2') (fun s H C cl fp => hE _ _ _ _ c (hx.blk s H scope C cl fp) h4) (folded_ok h7) htg
        · replace h := bo_some h; obtain ⟨it, h8, h⟩ := h
          cases h
          exact st_setLcIf hx.xc.calm hx.nd (hx.ix h2) hl hsw hi ok (fun s H C cl fp => cTg_ok (hx.blk s H scope C cl fp) h2') (fun s H C cl fp => hT _ _ _ _ c (hx.blk s H scope C cl fp) h8) (fun s H C cl fp => hE _ _ _ _ c (hx.blk s H scope C cl fp) h4) (folded_ok h7) htg
        · cases h
      · exact st_asg hx.nd (hx.ix h2) l1 l2 (cComp_ok hE hT hx h4) (sw_none hx h3)
    · rename_i elt g g1 scope p
      replace h := gd_some h; obtain ⟨h3, h⟩ := h
      replace h := bo_some h; obtain ⟨ie, h4, h⟩ := h
      cases h
      unfold swB at h3
      simp only [Bool.and_eq_true, Bool.not_eq_true'] at h3
      obtain ⟨⟨⟨k1, k2⟩, k3⟩, k4⟩ := h3
      have hk : X.env.scope.kind = .function := by
        rw [hx.xc.scope]
        split at k1
        · assumption
        · cases k1
      have hl := isLocal_ok k2
      rw [← hx.xc.scope] at hl
      have hsw := sw_true (elt := elt) (gs := [g, g1]) (scope := scope) (pos := p) (py := _) (y := _) (l := pos.line) hk hl k3 k4
      obtain ⟨tg, iter, tg1, iter1, itg, is, itg1, is1, ie', rfl, rfl, rfl, a1, a2, a3, a4, a5, a6, a7, a8, a9, a10⟩ := cComp2_parts (c := c) hE hx h4
      exact st_setLc2 hx.xc.calm hx.nd (hx.ix h2) hl hsw a1 a2 a3 a4 a5 a6 a7 a8 a9 a10 fun i hi => hi
    · replace h := gd_some h; obtain ⟨h3, h⟩ := h
      replace h := bo_some h; obtain ⟨ie, h4, h⟩ := h
      cases h
      exact st_asg hx.nd (hx.ix h2) l1 l2 (hf _ _ h4) (swaps_no (by simpa using h3) _ _ _)
  · split at h
    · split at h
      · rename_i hs
        replace h := bo_some h; obtain ⟨is, h2, h⟩ := h
        replace h := bo_some h; obtain ⟨fs, h3, h⟩ := h
        cases h
        rw [← hx.xc.scope] at hs
        exact st_asgT (e_tup _ _ (mapEs_ok hf h3).1) (g_tp hx.xc.calm hx.nd (nmIx_ok hx h2)) rfl (swapC_ok hs) rfl
      · split at h
        · replace h := gd_some h; obtain ⟨h1, h⟩ := h
          simp only [Bool.and_eq_true, decide_eq_true_eq] at h1
          obtain ⟨⟨h1, k1⟩, k2⟩ := h1
          replace h := bo_some h; obtain ⟨i, h2, h⟩ := h
          replace h := bo_some h; obtain ⟨j, h3, h⟩ := h
          replace h := gd_some h; obtain ⟨h4, h⟩ := h
          replace h := bo_some h; obtain ⟨fs, h5, h⟩ := h
          cases h
          have k1 := isLocal_ok k1
          have k2 := isLocal_ok k2
          rw [← hx.xc.scope] at h1 k1 k2
          exact st_par2 hx.xc.calm hx.nd (hx.ix h2) (hx.ix h3) (of_decide_eq_true h4) k1 k2 (mapEs_ok hf h5).1 (swapC_ok h1)
        · replace h := gd_some h; obtain ⟨h1, h⟩ := h
          simp only [Bool.and_eq_true, decide_eq_true_eq] at h1
          obtain ⟨⟨⟨h1, k1⟩, k2⟩, k3⟩ := h1
          replace h := bo_some h; obtain ⟨i, h2, h⟩ := h
          replace h := bo_some h; obtain ⟨j, h3, h⟩ := h
          replace h := bo_some h; obtain ⟨l, h6, h⟩ := h
          replace h := gd_some h; obtain ⟨h4, h⟩ := h
          replace h := bo_some h; obtain ⟨fs, h5, h⟩ := h
          cases h
          simp only [Bool.and_eq_true, decide_eq_true_eq] at h4
          have k1 := isLocal_ok k1
          have k2 := isLocal_ok k2
          have k3 := isLocal_ok k3
          rw [← hx.xc.scope] at h1 k1 k2 k3
          exact st_par3 hx.xc.calm hx.nd (hx.ix h2) (hx.ix h3) (hx.ix h6) h4.1.1 h4.1.2 h4.2 k1 k2 k3 (mapEs_ok hf h5).1 (swapC_ok h1)
        · cases h
      · cases h
    · replace h := gd_some h; obtain ⟨h1, h⟩ := h
      replace h := bo_some h; obtain ⟨is, h2, h⟩ := h
      replace h := bo_some h; obtain ⟨ie, h3, h⟩ := h
      cases h
      simp only [Bool.and_eq_true, Bool.not_eq_true'] at h1
      exact st_asgT (hf _ _ h3) (g_tp hx.xc.calm hx.nd (nmIx_ok hx h2)) (swapsS_no h1.1 _ _ _) (swap_nt h1.2 _) rfl
  · replace h := gd_some h; obtain ⟨h1, h⟩ := h
    replace h := bo_some h; obtain ⟨i, h2, h⟩ := h
    replace h := bo_some h; obtain ⟨iix, h3, h⟩ := h
    replace h := bo_some h; obtain ⟨ie, h4, h⟩ := h
    cases h
    simp only [Bool.and_eq_true, Bool.not_eq_true'] at h1
    obtain ⟨⟨⟨⟨k1, k2⟩, k3⟩, k4⟩, k5⟩ := h1
    exact st_setix (o := .Name "" pos) (hx.ix h2) (hx.vis k1) (plain_ok k2).1 (plain_ok k2).2 k3 (hf _ _ h4) (hf _ _ h3) (swapsS_no k4 _ _ _) (swap_sub _)
  · cases h
theorem cSf_ok {r : (TC → Expr → Option E) × (TC → Expr → Option T)} {fS : TC → Stmt → Option S} (hE : SE P n r.1) (hT : STt P n r.2) (hS : SS P n fS) : SS P n (cSf r fS) := by
  intro t X s is c hx h
  have hf : FE P n X c (r.1 t) := fun e ie q => hE t X e ie c hx q
  have hs : ∀ {ss iss}, mapSs (fS t) ss = some iss → PSs X ss (RS X.K c W0 (evSs (callN P n) (lentIn P) iss)) := fun q => mapSs_ok (fun s is q => hS t X s is c hx q) q
  have hp : PassesOwn (model X.prog X.w) X.A X.env X.xe := by rw [hx.xe]; exact PassesOwn.never
  unfold cSf at h
  split at h
  · exact cAsg_ok hE hT hx h
  · replace h := gd_some h; obtain ⟨h1, h⟩ := h
    replace h := bo_some h; obtain ⟨i, h2, h⟩ := h
    replace h := bo_some h; obtain ⟨ie, h3, h⟩ := h
    cases h
    obtain ⟨l1, l2⟩ := hx.loc h1
    exact st_aug hx.nd (hx.ix h2) l1 l2 (hf _ _ h3)
  · replace h := gd_some h; obtain ⟨h1, h⟩ := h
    replace h := bo_some h; obtain ⟨i, h2, h⟩ := h
    replace h := bo_some h; obtain ⟨iix, h3, h⟩ := h
    replace h := bo_some h; obtain ⟨ie, h4, h⟩ := h
    cases h
    simp only [Bool.and_eq_true, Bool.not_eq_true'] at h1
    obtain ⟨⟨k1, k2⟩, k3⟩ := h1
    exact st_augix (o := .Name "" ⟨0, 0, 0, 0⟩) (hx.ix h2) (hx.vis k1) (plain_ok k2).1 (plain_ok k2).2 k3 (hf _ _ h4) (hf _ _ h3)
  · replace h := gd_some h; obtain ⟨h1, h⟩ := h
    replace h := bo_some h; obtain ⟨ie, h2, h⟩ := h
    cases h
    exact st_ex (hf _ _ h2) (swaps_no (by simpa using h1) _ _ _)
  · replace h := bo_some h; obtain ⟨ie, h2, h⟩ := h
    cases h
    exact st_ret (hf _ _ h2)
  · cases h
    exact st_retN
  · replace h := bo_some h; obtain ⟨ic, h1, h⟩ := h
    replace h := bo_some h; obtain ⟨ia, h2, h⟩ := h
    replace h := bo_some h; obtain ⟨ib, h3, h⟩ := h
    cases h
    exact st_if (hT _ _ _ _ _ hx h1) (hs h2) (hs h3)
  · replace h := gd_some h; obtain ⟨h1, h⟩ := h
    replace h := bo_some h; obtain ⟨itg, h2, h⟩ := h
    replace h := bo_some h; obtain ⟨isr, h3, h⟩ := h
    replace h := bo_some h; obtain ⟨ib, h4, h⟩ := h
    cases h
    exact st_for hp hx.xc.calm (cSrc_ok hx hf h3) (cTg_ok hx h2) (hs h4) (folded_ok (by simpa using h1))
  · replace h := bo_some h; obtain ⟨ic, h1, h⟩ := h
    replace h := bo_some h; obtain ⟨ib, h4, h⟩ := h
    cases h
    exact st_while hp (hT _ _ _ _ _ hx h1) (hs h4)
  · cases h; exact st_pass
  · cases h; exact st_brk
  · cases h; exact st_cont
  · cases h; exact st_never
  · cases h
theorem cS_ok (m : Nat) : ∀ k : Nat, SS P n (cS m k)
  | 0 => fun _ _ _ _ _ _ h => (by cases h)
  | k + 1 => cSf_ok (cET_ok m).1 (cET_ok m).2 (cS_ok m k)
end
end PX
/-! PX, part q: forms compared (printed by mkbeq.py). -/
namespace PX
open PySem PySem.Spec PyProof.Rows L2
def beqD : D → D → Bool
  | .int i, e => match e with | .int j => decide (i = j) | _ => false
  | .bool i, e => match e with | .bool j => decide (i = j) | _ => false
  | .str i, e => match e with | .str j => decide (i = j) | _ => false
  | .none, e => match e with | .none => true | _ => false
  | _, _ => false
theorem beqD_eq (a b : D) (h : beqD a b = true) : a = b := by
  unfold beqD at h
  split at h <;> (try split at h) <;> first | cases h; done | (have e := of_decide_eq_true h; rw [e]) | rfl
def beqTg : Tg → Tg → Bool
  | .nm i, e => match e with | .nm j => decide (i = j) | _ => false
  | .tp i, e => match e with | .tp j => decide (i = j) | _ => false
theorem beqTg_eq (a b : Tg) (h : beqTg a b = true) : a = b := by
  unfold beqTg at h
  split at h <;> split at h <;> first | (have e := of_decide_eq_true h; rw [e]) | cases h
mutual
def beqE : E → E → Bool
  | .nm a0, e => match e with | .nm b0 => decide (a0 = b0) | _ => false
  | .c a0, e => match e with | .c b0 => beqD a0 b0 | _ => false
  | .tup a0, e => match e with | .tup b0 => beqEs a0 b0 | _ => false
  | .lst a0, e => match e with | .lst b0 => beqEs a0 b0 | _ => false
  | .bin a0 a1 a2, e => match e with | .bin b0 b1 b2 => decide (a0 = b0) && beqE a1 b1 && beqE a2 b2 | _ => false
  | .neg a0, e => match e with | .neg b0 => beqE a0 b0 | _ => false
  | .not a0, e => match e with | .not b0 => beqE a0 b0 | _ => false
  | .and a0 a1, e => match e with | .and b0 b1 => beqE a0 b0 && beqE a1 b1 | _ => false
  | .or a0 a1, e => match e with | .or b0 b1 => beqE a0 b0 && beqE a1 b1 | _ => false
  | .cmp a0 a1 a2, e => match e with | .cmp b0 b1 b2 => decide (a0 = b0) && beqE a1 b1 && beqE a2 b2 | _ => false
  | .chain a0 a1 a2 a3 a4, e => match e with | .chain b0 b1 b2 b3 b4 => decide (a0 = b0) && decide (a1 = b1) && beqE a2 b2 && beqE a3 b3 && beqE a4 b4 | _ => false
  | .isN a0, e => match e with | .isN b0 => beqE a0 b0 | _ => false
  | .notN a0, e => match e with | .notN b0 => beqE a0 b0 | _ => false
  | .ife a0 a1 a2, e => match e with | .ife b0 b1 b2 => beqT a0 b0 && beqE a1 b1 && beqE a2 b2 | _ => false
  | .ix a0 a1, e => match e with | .ix b0 b1 => beqE a0 b0 && beqE a1 b1 | _ => false
  | .sl00 a0, e => match e with | .sl00 b0 => beqE a0 b0 | _ => false
  | .sl10 a0 a1, e => match e with | .sl10 b0 b1 => beqE a0 b0 && beqE a1 b1 | _ => false
  | .sl01 a0 a1, e => match e with | .sl01 b0 b1 => beqE a0 b0 && beqE a1 b1 | _ => false
  | .sl11 a0 a1 a2, e => match e with | .sl11 b0 b1 b2 => beqE a0 b0 && beqE a1 b1 && beqE a2 b2 | _ => false
  | .rev a0, e => match e with | .rev b0 => beqE a0 b0 | _ => false
  | .call a0 a1, e => match e with | .call b0 b1 => decide (a0 = b0) && beqEs a1 b1 | _ => false
  | .callk a0 a1 a2 a3 a4, e => match e with | .callk b0 b1 b2 b3 b4 => decide (a0 = b0) && beqEs a1 b1 && beqEs a2 b2 && decide (a3 = b3) && decide (a4 = b4) | _ => false
  | .bi a0 a1, e => match e with | .bi b0 b1 => decide (a0 = b0) && beqEs a1 b1 | _ => false
  | .isi a0 a1, e => match e with | .isi b0 b1 => beqE a0 b0 && decide (a1 = b1) | _ => false
  | .mut a0 a1 a2, e => match e with | .mut b0 b1 b2 => decide (a0 = b0) && decide (a1 = b1) && beqEs a2 b2 | _ => false
  | .isi2 a0 a1 a2, e => match e with | .isi2 b0 b1 b2 => beqE a0 b0 && decide (a1 = b1) && decide (a2 = b2) | _ => false
  | .lenset a0, e => match e with | .lenset b0 => beqE a0 b0 | _ => false
  | .sortset a0, e => match e with | .sortset b0 => beqE a0 b0 | _ => false
  | .rgl1 a0 a1, e => match e with | .rgl1 b0 b1 => decide (a0 = b0) && beqE a1 b1 | _ => false
  | .rgl2 a0 a1 a2, e => match e with | .rgl2 b0 b1 b2 => decide (a0 = b0) && beqE a1 b1 && beqE a2 b2 | _ => false
  | .comp a0 a1 a2 a3, e => match e with | .comp b0 b1 b2 b3 => beqE a0 b0 && beqTg a1 b1 && beqSrc a2 b2 && decide (a3 = b3) | _ => false
  | .compif a0 a1 a2 a3 a4, e => match e with | .compif b0 b1 b2 b3 b4 => beqE a0 b0 && beqTg a1 b1 && beqSrc a2 b2 && beqT a3 b3 && decide (a4 = b4) | _ => false
  | .comp2 a0 a1 a2 a3 a4 a5 a6, e => match e with | .comp2 b0 b1 b2 b3 b4 b5 b6 => beqE a0 b0 && beqTg a1 b1 && beqSrc a2 b2 && beqTg a3 b3 && beqSrc a4 b4 && decide (a5 = b5) && decide (a6 = b6) | _ => false
termination_by structural x => x
def beqT : T → T → Bool
  | .not a0, e => match e with | .not b0 => beqT a0 b0 | _ => false
  | .and a0 a1, e => match e with | .and b0 b1 => beqT a0 b0 && beqT a1 b1 | _ => false
  | .or a0 a1, e => match e with | .or b0 b1 => beqT a0 b0 && beqT a1 b1 | _ => false
  | .val a0, e => match e with | .val b0 => beqE a0 b0 | _ => false
termination_by structural x => x
def beqEs : Es → Es → Bool
  | .nil , e => match e with | .nil  => true | _ => false
  | .cons a0 a1, e => match e with | .cons b0 b1 => beqE a0 b0 && beqEs a1 b1 | _ => false
termination_by structural x => x
def beqSrc : Src → Src → Bool
  | .seq a0, e => match e with | .seq b0 => beqE a0 b0 | _ => false
  | .zip a0 a1, e => match e with | .zip b0 b1 => beqE a0 b0 && beqE a1 b1 | _ => false
  | .enum a0, e => match e with | .enum b0 => beqE a0 b0 | _ => false
  | .rng1 a0, e => match e with | .rng1 b0 => beqE a0 b0 | _ => false
  | .rng2 a0 a1, e => match e with | .rng2 b0 b1 => beqE a0 b0 && beqE a1 b1 | _ => false
termination_by structural x => x
end
mutual
def beqS : S → S → Bool
  | .asg a0 a1 a2, e => match e with | .asg b0 b1 b2 => decide (a0 = b0) && decide (a1 = b1) && beqE a2 b2 | _ => false
  | .asgT a0 a1, e => match e with | .asgT b0 b1 => beqTg a0 b0 && beqE a1 b1 | _ => false
  | .mul a0 a1, e => match e with | .mul b0 b1 => decide (a0 = b0) && beqEs a1 b1 | _ => false
  | .setix a0 a1 a2, e => match e with | .setix b0 b1 b2 => decide (a0 = b0) && beqE a1 b1 && beqE a2 b2 | _ => false
  | .swapix a0 a1 a2 a3, e => match e with | .swapix b0 b1 b2 b3 => decide (a0 = b0) && beqE a1 b1 && beqE a2 b2 && beqE a3 b3 | _ => false
  | .aug a0 a1 a2, e => match e with | .aug b0 b1 b2 => decide (a0 = b0) && decide (a1 = b1) && beqE a2 b2 | _ => false
  | .augix a0 a1 a2 a3, e => match e with | .augix b0 b1 b2 b3 => decide (a0 = b0) && beqE a1 b1 && decide (a2 = b2) && beqE a3 b3 | _ => false
  | .ex a0, e => match e with | .ex b0 => beqE a0 b0 | _ => false
  | .ret a0, e => match e with | .ret b0 => beqE a0 b0 | _ => false
  | .retN , e => match e with | .retN  => true | _ => false
  | .ife a0 a1 a2, e => match e with | .ife b0 b1 b2 => beqT a0 b0 && beqSs a1 b1 && beqSs a2 b2 | _ => false
  | .for_ a0 a1 a2, e => match e with | .for_ b0 b1 b2 => beqTg a0 b0 && beqSrc a1 b1 && beqSs a2 b2 | _ => false
  | .while_ a0 a1, e => match e with | .while_ b0 b1 => beqT a0 b0 && beqSs a1 b1 | _ => false
  | .pass , e => match e with | .pass  => true | _ => false
  | .never , e => match e with | .never  => true | _ => false
  | .brk , e => match e with | .brk  => true | _ => false
  | .cont , e => match e with | .cont  => true | _ => false
termination_by structural x => x
def beqSs : Ss → Ss → Bool
  | .nil , e => match e with | .nil  => true | _ => false
  | .cons a0 a1, e => match e with | .cons b0 b1 => beqS a0 b0 && beqSs a1 b1 | _ => false
termination_by structural x => x
end
mutual
theorem beqE_eq : ∀ (a b : E), beqE a b = true → a = b
  | .nm a0, e, h => by
    cases e <;> first | cases h | skip
    rename_i b0
    replace h : (decide (a0 = b0)) = true := h
    have e0 := of_decide_eq_true h
    subst e0
    rfl
  | .c a0, e, h => by
    cases e <;> first | cases h | skip
    rename_i b0
    replace h : (beqD a0 b0) = true := h
    have e0 := beqD_eq _ _ h
    subst e0
    rfl
  | .tup a0, e, h => by
    cases e <;> first | cases h | skip
    rename_i b0
    replace h : (beqEs a0 b0) = true := h
    have e0 := beqEs_eq _ _ h
    subst e0
    rfl
  | .lst a0, e, h => by
    cases e <;> first | cases h | skip
    rename_i b0
    replace h : (beqEs a0 b0) = true := h
    have e0 := beqEs_eq _ _ h
    subst e0
    rfl
  | .bin a0 a1 a2, e, h => by
    cases e <;> first | cases h | skip
    rename_i b0 b1 b2
    replace h : (decide (a0 = b0) && beqE a1 b1 && beqE a2 b2) = true := h
    simp only [Bool.and_eq_true] at h
    have e0 := of_decide_eq_true h.1.1
    have e1 := beqE_eq _ _ h.1.2
    have e2 := beqE_eq _ _ h.2
    subst e0 e1 e2
    rfl
  | .neg a0, e, h => by
    cases e <;> first | cases h | skip
    rename_i b0
    replace h : (beqE a0 b0) = true := h
    have e0 := beqE_eq _ _ h
    subst e0
    rfl
  | .not a0, e, h => by
    cases e <;> first | cases h | skip
    rename_i b0
    replace h : (beqE a0 b0) = true := h
    have e0 := beqE_eq _ _ h
    subst e0
    rfl
  | .and a0 a1, e, h => by
    cases e <;> first | cases h | skip
    rename_i b0 b1
    replace h : (beqE a0 b0 && beqE a1 b1) = true := h
    simp only [Bool.and_eq_true] at h
    have e0 := beqE_eq _ _ h.1
    have e1 := beqE_eq _ _ h.2
    subst e0 e1
    rfl
  | .or a0 a1, e, h => by
    cases e <;> first | cases h | skip
    rename_i b0 b1
    replace h : (beqE a0 b0 && beqE a1 b1) = true := h
    simp only [Bool.and_eq_true] at h
    have e0 := beqE_eq _ _ h.1
    have e1 := beqE_eq _ _ h.2
    subst e0 e1
    rfl
  | .cmp a0 a1 a2, e, h => by
    cases e <;> first | cases h | skip
    rename_i b0 b1 b2
    replace h : (decide (a0 = b0) && beqE a1 b1 && beqE a2 b2) = true := h
    simp only [Bool.and_eq_true] at h
    have e0 := of_decide_eq_true h.1.1
    have e1 := beqE_eq _ _ h.1.2
    have e2 := beqE_eq _ _ h.2
    subst e0 e1 e2
    rfl
  | .chain a0 a1 a2 a3 a4, e, h => by
    cases e <;> first | cases h | skip
    rename_i b0 b1 b2 b3 b4
    replace h : (decide (a0 = b0) && decide (a1 = b1) && beqE a2 b2 && beqE a3 b3 && beqE a4 b4) = true := h
    simp only [Bool.and_eq_true] at h
    have e0 := of_decide_eq_true h.1.1.1.1
    have e1 := of_decide_eq_true h.1.1.1.2
    have e2 := beqE_eq _ _ h.1.1.2
    have e3 := beqE_eq _ _ h.1.2
    have e4 := beqE_eq _ _ h.2
    subst e0 e1 e2 e3 e4
    rfl
  | .isN a0, e, h => by
    cases e <;> first | cases h | skip
    rename_i b0
    replace h : (beqE a0 b0) = true := h
    have e0 := beqE_eq _ _ h
    subst e0
    rfl
  | .notN a0, e, h => by
    cases e <;> first | cases h | skip
    rename_i b0
    replace h : (beqE a0 b0) = true := h
    have e0 := beqE_eq _ _ h
    subst e0
    rfl
  | .ife a0 a1 a2, e, h => by
    cases e <;> first | cases h | skip
    rename_i b0 b1 b2
    replace h : (beqT a0 b0 && beqE a1 b1 && beqE a2 b2) = true := h
    simp only [Bool.and_eq_true] at h
    have e0 := beqT_eq _ _ h.1.1
    have e1 := beqE_eq _ _ h.1.2
    have e2 := beqE_eq _ _ h.2
    subst e0 e1 e2
    rfl
  | .ix a0 a1, e, h => by
    cases e <;> first | cases h | skip
    rename_i b0 b1
    replace h : (beqE a0 b0 && beqE a1 b1) = true := h
    simp only [Bool.and_eq_true] at h
    have e0 := beqE_eq _ _ h.1
    have e1 := beqE_eq _ _ h.2
    subst e0 e1
    rfl
  | .sl00 a0, e, h => by
    cases e <;> first | cases h | skip
    rename_i b0
    replace h : (beqE a0 b0) = true := h
    have e0 := beqE_eq _ _ h
    subst e0
    rfl
  | .sl10 a0 a1, e, h => by
    cases e <;> first | cases h | skip
    rename_i b0 b1
    replace h : (beqE a0 b0 && beqE a1 b1) = true := h
    simp only [Bool.and_eq_true] at h
    have e0 := beqE_eq _ _ h.1
    have e1 := beqE_eq _ _ h.2
    subst e0 e1
    rfl
  | .sl01 a0 a1, e, h => by
    cases e <;> first | cases h | skip
    rename_i b0 b1
    replace h : (beqE a0 b0 && beqE a1 b1) = true := h
    simp only [Bool.and_eq_true] at h
    have e0 := beqE_eq _ _ h.1
    have e1 := beqE_eq _ _ h.2
    subst e0 e1
    rfl
  | .sl11 a0 a1 a2, e, h => by
    cases e <;> first | cases h | skip
    rename_i b0 b1 b2
    replace h : (beqE a0 b0 && beqE a1 b1 && beqE a2 b2) = true := h
    simp only [Bool.and_eq_true] at h
    have e0 := beqE_eq _ _ h.1.1
    have e1 := beqE_eq _ _ h.1.2
    have e2 := beqE_eq _ _ h.2
    subst e0 e1 e2
    rfl
  | .rev a0, e, h => by
    cases e <;> first | cases h | skip
    rename_i b0
    replace h : (beqE a0 b0) = true := h
    have e0 := beqE_eq _ _ h
    subst e0
    rfl
  | .call a0 a1, e, h => by
    cases e <;> first | cases h | skip
    rename_i b0 b1
    replace h : (decide (a0 = b0) && beqEs a1 b1) = true := h
    simp only [Bool.and_eq_true] at h
    have e0 := of_decide_eq_true h.1
    have e1 := beqEs_eq _ _ h.2
    subst e0 e1
    rfl
  | .callk a0 a1 a2 a3 a4, e, h => by
    cases e <;> first | cases h | skip
    rename_i b0 b1 b2 b3 b4
    replace h : (decide (a0 = b0) && beqEs a1 b1 && beqEs a2 b2 && decide (a3 = b3) && decide (a4 = b4)) = true := h
    simp only [Bool.and_eq_true] at h
    have e0 := of_decide_eq_true h.1.1.1.1
    have e1 := beqEs_eq _ _ h.1.1.1.2
    have e2 := beqEs_eq _ _ h.1.1.2
    have e3 := of_decide_eq_true h.1.2
    have e4 := of_decide_eq_true h.2
    subst e0 e1 e2 e3 e4
    rfl
  | .bi a0 a1, e, h => by
    cases e <;> first | cases h | skip
    rename_i b0 b1
    replace h : (decide (a0 = b0) && beqEs a1 b1) = true := h
    simp only [Bool.and_eq_true] at h
    have e0 := of_decide_eq_true h.1
    have e1 := beqEs_eq _ _ h.2
    subst e0 e1
    rfl
  | .isi a0 a1, e, h => by
    cases e <;> first | cases h | skip
    rename_i b0 b1
    replace h : (beqE a0 b0 && decide (a1 = b1)) = true := h
    simp only [Bool.and_eq_true] at h
    have e0 := beqE_eq _ _ h.1
    have e1 := of_decide_eq_true h.2
    subst e0 e1
    rfl
  | .mut a0 a1 a2, e, h => by
    cases e <;> first | cases h | skip
    rename_i b0 b1 b2
    replace h : (decide (a0 = b0) && decide (a1 = b1) && beqEs a2 b2) = true := h
    simp only [Bool.and_eq_true] at h
    have e0 := of_decide_eq_true h.1.1
    have e1 := of_decide_eq_true h.1.2
    have e2 := beqEs_eq _ _ h.2
    subst e0 e1 e2
    rfl
  | .isi2 a0 a1 a2, e, h => by
    cases e <;> first | cases h | skip
    rename_i b0 b1 b2
    replace h : (beqE a0 b0 && decide (a1 = b1) && decide (a2 = b2)) = true := h
    simp only [Bool.and_eq_true] at h
    have e0 := beqE_eq _ _ h.1.1
    have e1 := of_decide_eq_true h.1.2
    have e2 := of_decide_eq_true h.2
    subst e0 e1 e2
    rfl
  | .lenset a0, e, h => by
    cases e <;> first | cases h | skip
    rename_i b0
    replace h : (beqE a0 b0) = true := h
    have e0 := beqE_eq _ _ h
    subst e0
    rfl
  | .sortset a0, e, h => by
    cases e <;> first | cases h | skip
    rename_i b0
    replace h : (beqE a0 b0) = true := h
    have e0 := beqE_eq _ _ h
    subst e0
    rfl
  | .rgl1 a0 a1, e, h => by
    cases e <;> first | cases h | skip
    rename_i b0 b1
    replace h : (decide (a0 = b0) && beqE a1 b1) = true := h
    simp only [Bool.and_eq_true] at h
    have e0 := of_decide_eq_true h.1
    have e1 := beqE_eq _ _ h.2
    subst e0 e1
    rfl
  | .rgl2 a0 a1 a2, e, h => by
    cases e <;> first | cases h | skip
    rename_i b0 b1 b2
    replace h : (decide (a0 = b0) && beqE a1 b1 && beqE a2 b2) = true := h
    simp only [Bool.and_eq_true] at h
    have e0 := of_decide_eq_true h.1.1
    have e1 := beqE_eq _ _ h.1.2
    have e2 := beqE_eq _ _ h.2
    subst e0 e1 e2
    rfl
  | .comp a0 a1 a2 a3, e, h => by
    cases e <;> first | cases h | skip
    rename_i b0 b1 b2 b3
    replace h : (beqE a0 b0 && beqTg a1 b1 && beqSrc a2 b2 && decide (a3 = b3)) = true := h
    simp only [Bool.and_eq_true] at h
    have e0 := beqE_eq _ _ h.1.1.1
    have e1 := beqTg_eq _ _ h.1.1.2
    have e2 := beqSrc_eq _ _ h.1.2
    have e3 := of_decide_eq_true h.2
    subst e0 e1 e2 e3
    rfl
  | .compif a0 a1 a2 a3 a4, e, h => by
    cases e <;> first | cases h | skip
    rename_i b0 b1 b2 b3 b4
    replace h : (beqE a0 b0 && beqTg a1 b1 && beqSrc a2 b2 && beqT a3 b3 && decide (a4 = b4)) = true := h
    simp only [Bool.and_eq_true] at h
    have e0 := beqE_eq _ _ h.1.1.1.1
    have e1 := beqTg_eq _ _ h.1.1.1.2
    have e2 := beqSrc_eq _ _ h.1.1.2
    have e3 := beqT_eq _ _ h.1.2
    have e4 := of_decide_eq_true h.2
    subst e0 e1 e2 e3 e4
    rfl
  | .comp2 a0 a1 a2 a3 a4 a5 a6, e, h => by
    cases e <;> first | cases h | skip
    rename_i b0 b1 b2 b3 b4 b5 b6
    replace h : (beqE a0 b0 && beqTg a1 b1 && beqSrc a2 b2 && beqTg a3 b3 && beqSrc a4 b4 && decide (a5 = b5) && decide (a6 = b6)) = true := h
    simp only [Bool.and_eq_true] at h
    have e0 := beqE_eq _ _ h.1.1.1.1.1.1
    have e1 := beqTg_eq _ _ h.1.1.1.1.1.2
    have e2 := beqSrc_eq _ _ h.1.1.1.1.2
    have e3 := beqTg_eq _ _ h.1.1.1.2
    have e4 := beqSrc_eq _ _ h.1.1.2
    have e5 := of_decide_eq_true h.1.2
    have e6 := of_decide_eq_true h.2
    subst e0 e1 e2 e3 e4 e5 e6
    rfl
termination_by structural x => x
theorem beqT_eq : ∀ (a b : T), beqT a b = true → a = b
  | .not a0, e, h => by
    cases e <;> first | cases h | skip
    rename_i b0
    replace h : (beqT a0 b0) = true := h
    have e0 := beqT_eq _ _ h
    subst e0
    rfl
  | .and a0 a1, e, h => by
    cases e <;> first | cases h | skip
    rename_i b0 b1
    replace h : (beqT a0 b0 && beqT a1 b1) = true := h
    simp only [Bool.and_eq_true] at h
    have e0 := beqT_eq _ _ h.1
    have e1 := beqT_eq _ _ h.2
    subst e0 e1
    rfl
  | .or a0 a1, e, h => by
    cases e <;> first | cases h | skip
    rename_i b0 b1
    replace h : (beqT a0 b0 && beqT a1 b1) = true := h
    simp only [Bool.and_eq_true] at h
    have e0 := beqT_eq _ _ h.1
    have e1 := beqT_eq _ _ h.2
    subst e0 e1
    rfl
  | .val a0, e, h => by
    cases e <;> first | cases h | skip
    rename_i b0
    replace h : (beqE a0 b0) = true := h
    have e0 := beqE_eq _ _ h
    subst e0
    rfl
termination_by structural x => x
theorem beqEs_eq : ∀ (a b : Es), beqEs a b = true → a = b
  | .nil , e, h => by
    cases e <;> first | cases h | skip
    rfl
  | .cons a0 a1, e, h => by
    cases e <;> first | cases h | skip
    rename_i b0 b1
    replace h : (beqE a0 b0 && beqEs a1 b1) = true := h
    simp only [Bool.and_eq_true] at h
    have e0 := beqE_eq _ _ h.1
    have e1 := beqEs_eq _ _ h.2
    subst e0 e1
    rfl
termination_by structural x => x
theorem beqSrc_eq : ∀ (a b : Src), beqSrc a b = true → a = b
  | .seq a0, e, h => by
    cases e <;> first | cases h | skip
    rename_i b0
    replace h : (beqE a0 b0) = true := h
    have e0 := beqE_eq _ _ h
    subst e0
    rfl
  | .zip a0 a1, e, h => by
    cases e <;> first | cases h | skip
    rename_i b0 b1
    replace h : (beqE a0 b0 && beqE a1 b1) = true := h
    simp only [Bool.and_eq_true] at h
    have e0 := beqE_eq _ _ h.1
    have e1 := beqE_eq _ _ h.2
    subst e0 e1
    rfl
  | .enum a0, e, h => by
    cases e <;> first | cases h | skip
    rename_i b0
    replace h : (beqE a0 b0) = true := h
    have e0 := beqE_eq _ _ h
    subst e0
    rfl
  | .rng1 a0, e, h => by
    cases e <;> first | cases h | skip
    rename_i b0
    replace h : (beqE a0 b0) = true := h
    have e0 := beqE_eq _ _ h
    subst e0
    rfl
  | .rng2 a0 a1, e, h => by
    cases e <;> first | cases h | skip
    rename_i b0 b1
    replace h : (beqE a0 b0 && beqE a1 b1) = true := h
    simp only [Bool.and_eq_true] at h
    have e0 := beqE_eq _ _ h.1
    have e1 := beqE_eq _ _ h.2
    subst e0 e1
    rfl
termination_by structural x => x
end
mutual
theorem beqS_eq : ∀ (a b : S), beqS a b = true → a = b
  | .asg a0 a1 a2, e, h => by
    cases e <;> first | cases h | skip
    rename_i b0 b1 b2
    replace h : (decide (a0 = b0) && decide (a1 = b1) && beqE a2 b2) = true := h
    simp only [Bool.and_eq_true] at h
    have e0 := of_decide_eq_true h.1.1
    have e1 := of_decide_eq_true h.1.2
    have e2 := beqE_eq _ _ h.2
    subst e0 e1 e2
    rfl
  | .asgT a0 a1, e, h => by
    cases e <;> first | cases h | skip
    rename_i b0 b1
    replace h : (beqTg a0 b0 && beqE a1 b1) = true := h
    simp only [Bool.and_eq_true] at h
    have e0 := beqTg_eq _ _ h.1
    have e1 := beqE_eq _ _ h.2
    subst e0 e1
    rfl
  | .mul a0 a1, e, h => by
    cases e <;> first | cases h | skip
    rename_i b0 b1
    replace h : (decide (a0 = b0) && beqEs a1 b1) = true := h
    simp only [Bool.and_eq_true] at h
    have e0 := of_decide_eq_true h.1
    have e1 := beqEs_eq _ _ h.2
    subst e0 e1
    rfl
  | .setix a0 a1 a2, e, h => by
    cases e <;> first | cases h | skip
    rename_i b0 b1 b2
    replace h : (decide (a0 = b0) && beqE a1 b1 && beqE a2 b2) = true := h
    simp only [Bool.and_eq_true] at h
    have e0 := of_decide_eq_true h.1.1
    have e1 := beqE_eq _ _ h.1.2
    have e2 := beqE_eq _ _ h.2
    subst e0 e1 e2
    rfl
  | .swapix a0 a1 a2 a3, e, h => by
    cases e <;> first | cases h | skip
    rename_i b0 b1 b2 b3
    replace h : (decide (a0 = b0) && beqE a1 b1 && beqE a2 b2 && beqE a3 b3) = true := h
    simp only [Bool.and_eq_true] at h
    have e0 := of_decide_eq_true h.1.1.1
    have e1 := beqE_eq _ _ h.1.1.2
    have e2 := beqE_eq _ _ h.1.2
    have e3 := beqE_eq _ _ h.2
    subst e0 e1 e2 e3
    rfl
  | .aug a0 a1 a2, e, h => by
    cases e <;> first | cases h | skip
    rename_i b0 b1 b2
    replace h : (decide (a0 = b0) && decide (a1 = b1) && beqE a2 b2) = true := h
    simp only [Bool.and_eq_true] at h
    have e0 := of_decide_eq_true h.1.1
    have e1 := of_decide_eq_true h.1.2
    have e2 := beqE_eq _ _ h.2
    subst e0 e1 e2
    rfl
  | .augix a0 a1 a2 a3, e, h => by
    cases e <;> first | cases h | skip
    rename_i b0 b1 b2 b3
    replace h : (decide (a0 = b0) && beqE a1 b1 && decide (a2 = b2) && beqE a3 b3) = true := h
    simp only [Bool.and_eq_true] at h
    have e0 := of_decide_eq_true h.1.1.1
    have e1 := beqE_eq _ _ h.1.1.2
    have e2 := of_decide_eq_true h.1.2
    have e3 := beqE_eq _ _ h.2
    subst e0 e1 e2 e3
    rfl
  | .ex a0, e, h => by
    cases e <;> first | cases h | skip
    rename_i b0
    replace h : (beqE a0 b0) = true := h
    have e0 := beqE_eq _ _ h
    subst e0
    rfl
  | .ret a0, e, h => by
    cases e <;> first | cases h | skip
    rename_i b0
    replace h : (beqE a0 b0) = true := h
    have e0 := beqE_eq _ _ h
    subst e0
    rfl
  | .retN , e, h => by
    cases e <;> first | cases h | skip
    rfl
  | .ife a0 a1 a2, e, h => by
    cases e <;> first | cases h | skip
    rename_i b0 b1 b2
    replace h : (beqT a0 b0 && beqSs a1 b1 && beqSs a2 b2) = true := h
    simp only [Bool.and_eq_true] at h
    have e0 := beqT_eq _ _ h.1.1
    have e1 := beqSs_eq _ _ h.1.2
    have e2 := beqSs_eq _ _ h.2
    subst e0 e1 e2
    rfl
  | .for_ a0 a1 a2, e, h => by
    cases e <;> first | cases h | skip
    rename_i b0 b1 b2
    replace h : (beqTg a0 b0 && beqSrc a1 b1 && beqSs a2 b2) = true := h
    simp only [Bool.and_eq_true] at h
    have e0 := beqTg_eq _ _ h.1.1
    have e1 := beqSrc_eq _ _ h.1.2
    have e2 := beqSs_eq _ _ h.2
    subst e0 e1 e2
    rfl
  | .while_ a0 a1, e, h => by
    cases e <;> first | cases h | skip
    rename_i b0 b1
    replace h : (beqT a0 b0 && beqSs a1 b1) = true := h
    simp only [Bool.and_eq_true] at h
    have e0 := beqT_eq _ _ h.1
    have e1 := beqSs_eq _ _ h.2
    subst e0 e1
    rfl
  | .pass , e, h => by
    cases e <;> first | cases h | skip
    rfl
  | .never , e, h => by
    cases e <;> first | cases h | skip
    rfl
  | .brk , e, h => by
    cases e <;> first | cases h | skip
    rfl
  | .cont , e, h => by
    cases e <;> first | cases h | skip
    rfl
termination_by structural x => x
theorem beqSs_eq : ∀ (a b : Ss), beqSs a b = true → a = b
  | .nil , e, h => by
    cases e <;> first | cases h | skip
    rfl
  | .cons a0 a1, e, h => by
    cases e <;> first | cases h | skip
    rename_i b0 b1
    replace h : (beqS a0 b0 && beqSs a1 b1) = true := h
    simp only [Bool.and_eq_true] at h
    have e0 := beqS_eq _ _ h.1
    have e1 := beqSs_eq _ _ h.2
    subst e0 e1
    rfl
termination_by structural x => x
end
end PX
/-! PX, part r: a def keeps its promise; all defs. -/
namespace PX
open PySem PySem.Spec PyProof.Rows L2

def argSlot : Arg → Slot
  | .fz d => .fz d
  | .io xs => .io xs
theorem startE_eq (fd : FDef) : ∀ (as : List Arg) (j : Nat), startE fd j as = as.map argSlot ++ List.replicate (fd.names.length - fd.par) .un
  | [], j => rfl
  | .fz d :: as, j => congrArg (Slot.fz d :: ·) (startE_eq fd as (j + 1))
  | .io d :: as, j => congrArg (Slot.io d :: ·) (startE_eq fd as (j + 1))
theorem start_slot {fd : FDef} {as : List Arg} {i : Nat} {s : Slot} (h : slot (startE fd 0 as) i = s) (hs : s ≠ .un) : ∃ a, as[i]? = some a ∧ argSlot a = s := by
  rw [startE_eq] at h
  unfold slot at h
  by_cases hi : i < as.length
  · rw [List.getElem?_append_left (by simpa using hi), List.getElem?_map, List.getElem?_eq_getElem hi] at h
    exact ⟨as[i], List.getElem?_eq_getElem hi, h⟩
  · rw [List.getElem?_append_right (by simpa using hi), List.getElem?_replicate] at h
    split at h <;> exact absurd h.symm hs
section
variable {K : PySem.W.Frag} {B H : Hp}
theorem ArgsR.fzAt : ∀ {vs : List V} {as : List Arg} {io : List Addr} {i : Nat} {d : D}, ArgsR K B H vs as io → as[i]? = some (.fz d) → ∃ v, vs[i]? = some v ∧ Den K B v d
  | _, _, _, i, d, .nil, e => by simp at e
  | _, _, _, 0, d, .fz h t, e => by cases e; exact ⟨_, rfl, h⟩
  | _, _, _, i + 1, d, .fz h t, e => by simpa using ArgsR.fzAt t (by simpa using e)
  | _, _, _, 0, d, .io _ _ _ t, e => by cases e
  | _, _, _, i + 1, d, .io _ _ _ t, e => by simpa using ArgsR.fzAt t (by simpa using e)
theorem ArgsR.ioAt : ∀ {vs : List V} {as : List Arg} {io : List Addr} {i : Nat} {xs : List D}, ArgsR K B H vs as io → as[i]? = some (.io xs) → ∃ a ws, vs[i]? = some (.ref a) ∧ H a = some (.lst ws) ∧ B a = none ∧ a ∈ io ∧ DenL K B ws xs
  | _, _, _, i, d, .nil, e => by simp at e
  | _, _, _, 0, d, .fz h t, e => by cases e
  | _, _, _, i + 1, d, .fz h t, e => by simpa using ArgsR.ioAt t (by simpa using e)
  | _, _, _, 0, d, .io h1 h2 h3 t, e => by cases e; exact ⟨_, _, rfl, h1, h2, List.mem_cons_self, h3⟩
  | _, _, _, i + 1, d, .io _ _ _ t, e => by
    obtain ⟨a, ws, h1, h2, h3, h4, h5⟩ := ArgsR.ioAt t (i := i) (by simpa using e)
    exact ⟨a, ws, by simpa using h1, h2, h3, List.mem_cons_of_mem _ h4, h5⟩
theorem ArgsR.mem : ∀ {vs : List V} {as : List Arg} {io : List Addr}, ArgsR K B H vs as io → ∀ a ∈ io, ∃ ws, H a = some (.lst ws)
  | _, _, _, .nil, a, h => by simp at h
  | _, _, _, .fz _ t, a, h => ArgsR.mem t a h
  | _, _, _, .io h1 _ _ t, a, h => by
    rcases List.mem_cons.mp h with rfl | h
    · exact ⟨_, h1⟩
    · exact ArgsR.mem t a h
theorem ArgsR.sep : ∀ {vs : List V} {as : List Arg} {io : List Addr}, ArgsR K B H vs as io → io.Nodup → ∀ {i j : Nat} {xs ys : List D} {a : Addr}, as[i]? = some (.io xs) → as[j]? = some (.io ys) → vs[i]? = some (.ref a) → vs[j]? = some (.ref a) → i = j
  | _, _, _, .nil, _, i, j, xs, ys, a, e, _, _, _ => by simp at e
  | _, _, _, .fz _ t, nd, 0, j, xs, ys, a, e, _, _, _ => by cases e
  | _, _, _, .fz _ t, nd, i + 1, 0, xs, ys, a, _, e, _, _ => by cases e
  | _, _, _, .fz _ t, nd, i + 1, j + 1, xs, ys, a, e1, e2, e3, e4 => congrArg Nat.succ (ArgsR.sep t nd (by simpa using e1) (by simpa using e2) (by simpa using e3) (by simpa using e4))
  | _, _, _, .io _ _ _ t, nd, 0, 0, xs, ys, a, _, _, _, _ => rfl
  | _, _, _, .io _ _ _ t, nd, 0, j + 1, xs, ys, a, e1, e2, e3, e4 => by
    obtain ⟨b, _, h1, _, _, h4, _⟩ := ArgsR.ioAt t (i := j) (by simpa using e2)
    have e4 : _ = _ := (by simpa using e4 : _ = _)
    rw [h1] at e4
    cases e3
    cases e4
    exact absurd h4 (List.nodup_cons.mp nd).1
  | _, _, _, .io _ _ _ t, nd, i + 1, 0, xs, ys, a, e1, e2, e3, e4 => by
    obtain ⟨b, _, h1, _, _, h4, _⟩ := ArgsR.ioAt t (i := i) (by simpa using e1)
    have e3 : _ = _ := (by simpa using e3 : _ = _)
    rw [h1] at e3
    cases e4
    cases e3
    exact absurd h4 (List.nodup_cons.mp nd).1
  | _, _, _, .io _ _ _ t, nd, i + 1, j + 1, xs, ys, a, e1, e2, e3, e4 => congrArg Nat.succ (ArgsR.sep t (List.nodup_cons.mp nd).2 (by simpa using e1) (by simpa using e2) (by simpa using e3) (by simpa using e4))
/-- one lent list at most -/
theorem ArgsR.none_io : ∀ {vs : List V} {as : List Arg} {io : List Addr} {j : Nat} {lent : List Nat}, ArgsR K B H vs as io → (∀ i ∈ lent, i < j) → argsFit lent j as = true → io = []
  | _, _, _, _, _, .nil, _, _ => rfl
  | _, _, _, j, lent, .fz _ t, hl, h => by
    unfold argsFit at h
    exact ArgsR.none_io t (fun i hi => Nat.lt_succ_of_lt (hl i hi)) (Bool.and_eq_true _ _ ▸ h).2
  | _, _, _, j, lent, .io _ _ _ t, hl, h => by
    unfold argsFit at h
    have h1 := (Bool.and_eq_true _ _ ▸ h).1
    exact absurd (hl j (List.contains_iff_mem.mp h1)) (Nat.lt_irrefl j)
theorem ArgsR.one_io : ∀ {vs : List V} {as : List Arg} {io : List Addr} {j p : Nat}, ArgsR K B H vs as io → argsFit [p] j as = true → io.length ≤ 1
  | _, _, _, _, _, .nil, _ => Nat.zero_le _
  | _, _, _, j, p, .fz _ t, h => by
    unfold argsFit at h
    exact ArgsR.one_io t (Bool.and_eq_true _ _ ▸ h).2
  | _, _, _, j, p, .io _ _ _ t, h => by
    unfold argsFit at h
    obtain ⟨h1, h2⟩ := (Bool.and_eq_true _ _ ▸ h : _ ∧ _)
    have e : j = p := by simpa using h1
    subst e
    rw [ArgsR.none_io t (fun i hi => by simp at hi; omega) h2]
    exact Nat.le_refl 1
theorem start_get {N : List Str} {vs : List V} {i : Nat} {v : V} (h : vs[i]? = some v) : (L2.start N vs)[i]? = some (some v) := by
  unfold L2.start
  have hi : i < vs.length := by
    rcases Nat.lt_or_ge i vs.length with q | q
    · exact q
    · rw [List.getElem?_eq_none q] at h; cases h
  rw [List.getElem?_append_left (by simpa using hi), List.getElem?_map, h]
  rfl
theorem start_sr {N : List Str} {fd : FDef} {vs : List V} {as : List Arg} {io : List Addr} (A : ArgsR K B H vs as io) (sB : Sm B H) (hl : HLen K H) (nd : io.Nodup) (hN : fd.names.length = N.length) (hp : as.length = fd.par) : SR K ⟨H, B, io⟩ B H (L2.start N vs) (startE fd 0 as) where
  len := by
    rw [startE_eq]
    unfold L2.start
    have := A.length
    simp only [List.length_append, List.length_map, List.length_replicate]
    omega
  exB := Sm.refl B
  dom := fun a o h => .inl h
  exF := sB
  keep := fun a o h _ => h
  iol := fun a ha => by
    obtain ⟨ws, e⟩ := A.mem a ha
    refine ⟨?_, ws, e⟩
    show H a ≠ none
    rw [e]
    exact fun z => by cases z
  hl := hl
  fz := fun i d h => by
    obtain ⟨a, h1, h2⟩ := start_slot h (fun z => by cases z)
    cases a with
    | io _ => cases h2
    | fz d' =>
      cases h2
      obtain ⟨v, h3, h4⟩ := A.fzAt h1
      exact ⟨v, start_get h3, h4⟩
  ow := fun i xs h => by
    obtain ⟨a, h1, h2⟩ := start_slot h (fun z => by cases z)
    cases a <;> cases h2
  io := fun i xs h => by
    obtain ⟨a, h1, h2⟩ := start_slot h (fun z => by cases z)
    cases a with
    | fz _ => cases h2
    | io ys =>
      cases h2
      obtain ⟨a, ws, h3, h4, h5, h6, h7⟩ := A.ioAt h1
      exact ⟨a, ws, start_get h3, h4, h5, h6, h7⟩
  sep := fun i j a hi hj ei ej => by
    have ioS : ∀ {k : Nat}, isOwn (slot (startE fd 0 as) k) = true → ∃ xs b, as[k]? = some (.io xs) ∧ vs[k]? = some (.ref b) := fun {k} hk => by
      obtain ⟨b, h1, h2⟩ := start_slot (s := slot (startE fd 0 as) k) rfl (fun z => by rw [z] at hk; cases hk)
      cases b with
      | fz d => rw [← h2] at hk; cases hk
      | io xs =>
        obtain ⟨b, _, h3, _⟩ := A.ioAt h1
        exact ⟨xs, b, h1, h3⟩
    obtain ⟨xs, b, h1, h2⟩ := ioS hi
    obtain ⟨ys, b', h3, h4⟩ := ioS hj
    rw [start_get h2] at ei
    rw [start_get h4] at ej
    cases ei
    cases ej
    exact A.sep nd h1 h3 h2 h4
end
/-- the lists that come back -/
theorem outs_ok {K : PySem.W.Frag} {c : FC} {F H : Hp} {σ : St} {ρ : Env} {B H0 : Hp} {vs : List V} {as : List Arg} {lent : List Nat} {l : List (List D)} (A : ArgsR K B H0 vs as c.io) (S : SR K c F H σ ρ) (hl : lent.length ≤ 1) (hf : argsFit lent 0 as = true) (h : lentBack ρ lent = some l) : OutR K F H c.io l := by
  match lent, hl, hf, h with
  | [], _, hf, h =>
    cases h
    rw [A.none_io (by simp) hf]
    exact .nil
  | [p], _, hf, h =>
    have h1 := A.one_io hf
    unfold lentBack at h
    cases hk : slot ρ p with
    | un => rw [hk] at h; cases h
    | fz _ => rw [hk] at h; cases h
    | ow _ => rw [hk] at h; cases h
    | io xs =>
      rw [hk] at h
      cases h
      obtain ⟨a, ws, e1, e2, e3, e4, e5⟩ := S.io p xs hk
      have : c.io = [a] := by
        match hio : c.io, h1, e4 with
        | [], _, e4 => simp at e4
        | [b], _, e4 => simp at e4; rw [e4]
      rw [this]
      exact .cons e2 e3 e5 .nil
theorem back_ok {K : PySem.W.Frag} {c : FC} {F H : Hp} {σ : St} {ρ : Env} {v z : Val} {x : V} (S : SR K c F H σ ρ) (hv : VR K c σ ρ F H c.H0 x v) (h : handBack ρ v = some z) : RetV K c.H0 F H x z := by
  cases v with
  | d d => cases h; exact hv
  | fr xs =>
    cases h
    obtain ⟨p, vs, h1, h2, h3, h4, h5, h6, h7⟩ := hv
    exact ⟨p, vs, h1, h2, h3, h5, h6⟩
  | own i =>
    have hv : σ[i]? = some (some x) := hv
    have h : (match slot ρ i with | .ow xs => some (Val.fr xs) | .fz d => some (.d d) | _ => none) = some z := h
    cases hk : slot ρ i with
    | un => rw [hk] at h; cases h
    | io _ => rw [hk] at h; cases h
    | fz d =>
      rw [hk] at h
      cases h
      obtain ⟨w, h1, h2⟩ := S.fz i d hk
      rw [hv] at h1
      cases h1
      exact h2
    | ow xs =>
      rw [hk] at h
      cases h
      obtain ⟨a, ws, h1, h2, h3, h4, h5⟩ := S.ow i xs hk
      rw [hv] at h1
      cases h1
      exact ⟨a, ws, rfl, h2, h3, h4, h5⟩
section
variable {P : Prog} {n : Nat} {pr : Program} {w : World} {K : PySem.W.Frag} {mg : Str → Option Value} {base : Heap} {t : TC} {X : Cx}
theorem run_ok {body : List Stmt} {fd : FDef} {f : String} {N : List Str} {vs : List V} {H : Hp} {Q : VK} {E : XK} (hK : X.K = K) (hb : ∀ c, PSs X body (RS X.K c W0 (evSs (callN P n) (lentIn P) fd.body))) (hfd : P.lookup f = some fd) (hlen : fd.names.length = N.length) (hl : fd.lent.length ≤ 1)
    (h : spF K (callN P (n + 1)) f vs H Q E) : ∃ t, PSs X body t ∧ t { nx := fun _ H' => Q .non H', rt := Q } (L2.start N vs) H := by
  subst hK
  obtain ⟨as, B, io, r, A, sB, hL, nd, hc, q⟩ := h
  refine ⟨_, hb ⟨H, B, io⟩, ?_⟩
  have hc : (match P.lookup f with | none => .bad | some fd => runF (callN P n) (lentIn P) fd as) = Res.ok r := hc
  rw [hfd] at hc
  have hc : runF (callN P n) (lentIn P) fd as = Res.ok r := hc
  unfold runF at hc
  split at hc
  · rename_i hcond
    have S0 := start_sr (N := N) (fd := fd) A sB hL nd hlen hcond.1
    refine ⟨B, _, S0, ?_⟩
    revert hc
    cases evSs (callN P n) (lentIn P) fd.body (startE fd 0 as) with
    | bad => intro hc; cases hc
    | ex _ _ _ => intro hc; cases hc
    | ok o =>
      intro hc σ' F' H' S' e'
      cases o with
      | bk _ => cases hc
      | ct _ => cases hc
      | nx ρ =>
        have hc : ((Res.need (lentBack ρ fd.lent)).bind fun l => (.ok (.d .none, l) : Res Ret)) = .ok r := hc
        cases hlb : lentBack ρ fd.lent with
        | none => rw [hlb] at hc; cases hc
        | some l =>
          rw [hlb] at hc
          cases hc
          exact q F' H' .non ⟨S'.exB, S'.dom, S'.exF, S'.keep, S'.hl, outs_ok (c := ⟨H, B, io⟩) A S' hl hcond.2 hlb, .non⟩
      | ret v ρ =>
        intro x hx
        have hc : ((Res.need (lentBack ρ fd.lent)).bind fun l => (Res.need (handBack ρ v)).bind fun z => (.ok (z, l) : Res Ret)) = .ok r := hc
        cases hlb : lentBack ρ fd.lent with
        | none => rw [hlb] at hc; cases hc
        | some l =>
          rw [hlb] at hc
          have hc : ((Res.need (handBack ρ v)).bind fun z => (.ok (z, l) : Res Ret)) = .ok r := hc
          cases hz : handBack ρ v with
          | none => rw [hz] at hc; cases hc
          | some z =>
            rw [hz] at hc
            cases hc
            exact q F' H' x ⟨S'.exB, S'.dom, S'.exF, S'.keep, S'.hl, outs_ok (c := ⟨H, B, io⟩) A S' hl hcond.2 hlb, back_ok (c := ⟨H, B, io⟩) S' hx hz⟩
  · cases hc
/-- how a def is written: its slots, the mutated ones -/
structure Way where
  N : List Str
  keep : List Nat
/-- a def's text answers to its form -/
def chkDef (kwl : List (String × Nat × List String × List Nat)) (fs : List String) (m k : Nat) (wy : Way) (sc : Scope) (body : List Stmt) (fd : FDef) : Bool :=
  (match mapSs (cS m k ⟨wy.N, sc, none, wy.keep, fs, kwl⟩) body with
  | some b => beqSs b fd.body
  | none => false) && decide (fd.names.length = wy.N.length) && decide (fd.lent.length ≤ 1)
/-- the slots and the parameters suit the scope -/
def chkScope (N ps : List Str) (sc : Scope) : Bool :=
  (match sc.kind with | .function => true | _ => false) && !sc.isCoroutine && !sc.isGenerator && decide N.Nodup && decide (N.take ps.length = ps) &&
    ps.all (fun x => match sc.names.lookup x with | some .local => true | some .cell => true | _ => false) && sc.names.all (fun y => match y.2 with | .free => false | _ => true)
theorem chkScope_ok {N ps : List Str} {sc : Scope} (h : chkScope N ps sc = true) : FnScope N ps sc := by
  unfold chkScope at h
  simp only [Bool.and_eq_true, Bool.not_eq_true', decide_eq_true_eq, List.all_eq_true] at h
  obtain ⟨⟨⟨⟨⟨⟨h1, h2⟩, h3⟩, h4⟩, h5⟩, h6⟩, h7⟩ := h
  refine ⟨?_, h2, h3, h4, h5, fun x hx => ?_, fun y hy e => ?_⟩
  · split at h1
    · assumption
    · cases h1
  · have q := h6 x hx
    split at q <;> first | exact .inl (by assumption) | exact .inr (by assumption) | cases q
  · have q := h7 y hy
    rw [e] at q
    cases q
/-- what is known of a def in the program -/
structure FnI (kwl : List (String × Nat × List String × List Nat)) (fs : List String) (K : PySem.W.Frag) (mg : Str → Option Value) (f : String) (fd : FDef) (fa : Addr) (fdd : FuncData) (ps : List Str) : Prop where
  ex : ∃ (x qual : Str) (params : Arguments) (body : List Stmt) (scope : Scope) (wy : Way) (m k : Nat), FunD K x qual params body scope [] [] fa fdd ∧ chkScope wy.N ps scope = true ∧ chkDef kwl fs m k wy scope body fd = true
  par : fd.par = ps.length
  glo : mg (Str.ofString f) = some (.ref fa)
  bind : Binds K fdd ps []
  kw : ∀ q ∈ kwsOf kwl f, KBn K fdd ps q.1 (q.2.1.map Str.ofString) (fun us ws => permL q.2.2 (us ++ ws)) (fun vs zs => permL q.2.2 (vs ++ zs))
def FnInfo (kwl : List (String × Nat × List String × List Nat)) (fs : List String) (K : PySem.W.Frag) (mg : Str → Option Value) (f : String) (fd : FDef) : Prop := ∃ fa fdd ps, FnI kwl fs K mg f fd fa fdd ps
theorem sp_len {f : String} {fd : FDef} {ps : List Str} (hfd : P.lookup f = some fd) (hpar : fd.par = ps.length) {vs : List V} {H : Hp} {Q : VK} {E : XK} (h : spF K (callN P n) f vs H Q E) : vs.length = ps.length := by
  obtain ⟨as, B, io, r, A, _, _, _, hc, _⟩ := h
  rw [A.length, ← hpar]
  cases n with
  | zero => cases hc
  | succ n =>
    have hc : (match P.lookup f with | none => .bad | some fd => runF (callN P n) (lentIn P) fd as) = Res.ok r := hc
    rw [hfd] at hc
    have hc : runF (callN P n) (lentIn P) fd as = Res.ok r := hc
    unfold runF at hc
    split at hc
    · rename_i hcond; exact hcond.1
    · cases hc
variable {kwl : List (String × Nat × List String × List Nat)} {fs : List String}
theorem fn_ok {f : String} {fd : FDef} {fa : Addr} {fdd : FuncData} {ps : List Str} (hfs : ∀ f ∈ fs, ∃ fd, P.lookup f = some fd) (hfd : P.lookup f = some fd) (I : FnI kwl fs K mg f fd fa fdd ps) (ih : ProgAt P n (kwsOf kwl) pr w K mg base) :
    FnOk pr w K mg base CX0 (n + 1) fa fdd ps (spF K (callN P (n + 1)) f) := by
  obtain ⟨x, qual, params, body, scope, wy, m, k, F, h1, h2⟩ := I.ex
  have S := chkScope_ok h1
  unfold chkDef at h2
  simp only [Bool.and_eq_true, decide_eq_true_eq] at h2
  obtain ⟨⟨h2, h7⟩, h8⟩ := h2
  refine F.ok S (fun vs H Q E h => sp_len hfd I.par h) fun cdv A outer s H vs Q E hr hsp => ?_
  have hb : ∀ c, PSs (cxOf CX0 pr w K mg base wy.N qual scope fa cdv A outer s H E).nox body (RS K c W0 (evSs (callN P n) (lentIn P) fd.body)) := fun c => by
    split at h2
    · rename_i b hb
      have e := beqSs_eq _ _ h2
      subst e
      exact mapSs_ok (X := (cxOf CX0 pr w K mg base wy.N qual scope fa cdv A outer s H E).nox) (fun s is q => cS_ok m k _ _ s is c ⟨⟨rfl, rfl, S.nd, rfl, hr, ih⟩, rfl, fun _ _ => rfl, hfs⟩ q) hb
    · cases h2
  obtain ⟨t, ht, hq⟩ := run_ok (X := (cxOf CX0 pr w K mg base wy.N qual scope fa cdv A outer s H E).nox) (K := K) rfl hb hfd h7 h8 hsp
  exact ⟨t, ht.nox, hq⟩
theorem prog_ok (hfs : ∀ f ∈ fs, ∃ fd, P.lookup f = some fd) (hall : ∀ f fd, P.lookup f = some fd → FnInfo kwl fs K mg f fd) (hfree : ∀ x ∈ freeNames, mg x = none) : ∀ n, ProgAt P n (kwsOf kwl) pr w K mg base
  | 0 => ⟨fun f fd hfd => (by
      obtain ⟨fa, fdd, ps, I⟩ := hall f fd hfd
      obtain ⟨x, qual, params, body, scope, wy, m, k, F, h1, h2⟩ := I.ex
      refine ⟨fa, fdd, ps, ⟨fun vs H Q E h => sp_len hfd I.par h, fun A outer s H args us vs Q E hr he hb hv hs => ?_⟩, I.glo, F.kp, I.bind, I.kw⟩
      obtain ⟨as, B, io, r, _, _, _, _, hc, _⟩ := hs
      cases hc), hfree⟩
  | n + 1 => ⟨fun f fd hfd => (by
      have ih := prog_ok hfs hall hfree n
      obtain ⟨fa, fdd, ps, I⟩ := hall f fd hfd
      have G := fn_ok hfs hfd I ih
      obtain ⟨x, qual, params, body, scope, wy, m, k, F, h1, h2⟩ := I.ex
      exact ⟨fa, fdd, ps, G, I.glo, F.kp, I.bind, I.kw⟩), hfree⟩
/-- keywords, no default -/
theorem kb_of {x qual : Str} {params : Arguments} {body : List Stmt} {scope : Scope} {kws : List (Str × V)} {fa : Addr} {fd : FuncData} {ps : List Str} (F : FunD K x qual params body scope [] kws fa fd) (m : Nat) (ks : List Str) (perm : List Nat)
    (h : ∀ (kV doc pm : Value) (an : Option Addr) (cdv ct : Value) (us ws : List Value), us.length = m → ws.length = ks.length → bindArgs (PySem.W.fnOf x qual params body scope .none kV doc pm an cdv ct) ⟨us, ks.zip ws⟩ = pure (ps.zip (permL perm (us ++ ws)))) :
    KBn K fd ps m ks (fun us ws => permL perm (us ++ ws)) (fun vs zs => permL perm (vs ++ zs)) := by
  obtain ⟨oc, od, dV, kV, doc, pm, an, cdv, ct, osl, rfl, lk, hcd, hD, hK⟩ := F.ex
  rcases hD with ⟨_, rfl⟩ | ⟨e, _⟩
  · exact ⟨fun s us ws _ h1 h2 => .of_eq (h kV doc pm an cdv ct us ws h1 h2), fun r1 r2 => permL_vals perm (r1.append r2)⟩
  · exact absurd rfl e
end

theorem prog_mem {f : String} {fd : FDef} : ∀ {P : Prog}, P.lookup f = some fd → (f, fd) ∈ P
  | [], h => by cases h
  | (g, gd) :: P, h => by
    rw [List.lookup_cons] at h
    split at h
    · rename_i e
      cases h
      have e := eq_of_beq e
      subst e
      exact List.mem_cons_self
    · exact List.mem_cons_of_mem _ (prog_mem h)

/-! ### the law's def -/
def spLw (K : PySem.W.Frag) : Sp := fun vs H Q _ => ∃ (a : Addr) (ns : List Int), vs = [.ref a] ∧ SqP K H a (ns.map V.int) ∧ ns.length ≤ 63 ∧ ∀ H', Q (.bl true) H'
theorem denL_ints {K : PySem.W.Frag} {H : Hp} : ∀ ns : List Int, DenL K H (ns.map V.int) (ns.map PyData.int)
  | [] => .nil
  | n :: ns => .cons (.int n) (denL_ints ns)
theorem hlen_of {P : Program} {w : World} {K : PySem.W.Frag} {H : Hp} {h : Heap} (x : HOk P w H h) : HLen K H := by
  have k : ∀ {xs : List V} {its : List Value}, Vals xs its → xs.length = its.length := fun r => r.length
  refine ⟨fun a xs q => ?_, fun a xs q => ?_⟩
  · rcases q with q | ⟨o, its, n, h1, h2, h3, h4, h5, h6⟩
    · obtain ⟨z, _⟩ := q.ok x
      exact z
    · rw [h6.length, Array.length_toList]; exact h5
  · rcases q with q | ⟨o, its, n, h1, h2, h3, h5, h6⟩
    · obtain ⟨z, _⟩ := q.ok x
      exact z
    · rw [h6.length, Array.length_toList]; exact h5
theorem lw_ok {P : Prog} {n : Nat} {pr : Program} {w : World} {K : PySem.W.Frag} {mg : Str → Option Value} {base : Heap} {fa : Addr} {fdd : FuncData} (F : FnOk pr w K mg base CX0 n fa fdd ["script"] (spF K (callN P n) "law"))
    (hl : ∀ ns : List Int, ns.length ≤ 63 → callN P n "law" [.fz (.list (ns.map PyData.int))] = .ok (.d (.bool true), [])) : FnOk pr w K mg base CX0 n fa fdd ["script"] (spLw K) := by
  refine ⟨fun vs H Q E ⟨a, ns, e, _⟩ => by rw [e]; rfl, fun A outer s H args us vs Q E hr he hb hv hs => ?_⟩
  obtain ⟨a, ns, rfl, hS, hn, hq⟩ := hs
  refine F.run A outer s H args us _ Q E hr he hb hv ⟨[.fz (.list (ns.map PyData.int))], H, [], _, .fz (.lst hS (denL_ints ns)) .nil, Sm.refl H, hlen_of he.hok, List.nodup_nil, hl ns hn, fun F' H' v b => ?_⟩
  have hv : Den K F' v (.bool true) := b.val
  rw [Den.toBl hv]
  exact hq H'
/-- the head's goal -/
theorem walk_px {l : PySem.W.OpenLaw} {k : Nat} {q : Program} {loose : List Str} {XP : (Str → Option Value) → Heap → Prop} {YP : World → Heap → Prop} {d : DefRec} (hn : l.most = some 63) (hdf : d.params.defaults = []) (hr : Room k callerA)
    (F : ∀ (w : World) (mg : Str → Option Value) (fa : Addr) (h : Heap), YP w h → h.Ns mainGlobals mg → mg d.name = some (.ref fa) →
      ∃ (K : PySem.W.Frag) (fd : FuncData), K.In h ∧ (∀ (s : Shared) (u : Value), BindsTo s fd ⟨[u], []⟩ [("script", u)]) ∧ ∀ base : Heap, K.In base → base.Ns mainGlobals mg → FnOk l.prog w K mg base CX0 k fa fd ["script"] (spLw K)) :
    PySem.W.WalkO q loose XP YP l.row.toRowW d [] (fun f vs => PySem.call f vs) := by
  refine Att.attach_call hn hdf fun w s₀ s₁ mg mb fa o pm cd doc a vs ns G Y ho hd hcd hmg hobj hints hlen hg => ?_
  obtain ⟨K, fd, KX, hb, hF⟩ := F w mg fa _ Y G.T.g hmg
  refine law_call KX G.T.g G.T.b G.T.builtins G.T.nolimit hg hobj hints (Nat.le_trans hlen (by decide)) hr hF hb (fun H _ hS => ?_) fun _ _ _ z => z
  refine ⟨a, ns, rfl, ?_, hlen, fun _ => rfl⟩
  rcases hS with hS | ⟨o, its, n, h1, h2, h3, h4, h5, h6⟩
  · exact .inl hS
  · have e := KX a o h1
    rw [hobj] at e
    cases e
    cases h4
    exact .inr ⟨vs, 0, h1, by simpa using h5, by simpa using h6⟩
end PX
/-! PX, part x: the evaluator's equations for simp (printed by mkx.py). -/
namespace PX
open PySem PySem.Spec PyProof.Rows L2
section
variable (call : CallT) (lentOf : String → Option (List Nat))
def cE (e : E) : Env → Res (Val × Env) := fun ρ1 => opd (evE call lentOf e ρ1)
def cT (t : T) : Env → Res (Bool × Env) := fun ρ1 => evT call lentOf t ρ1
def tT : Env → Res (Bool × Env) := fun ρ1 => .ok (true, ρ1)
def cSr (s : Src) : Env → Res (List D × Env) := fun ρ1 => evSrc call lentOf s ρ1
def cB (b : Ss) : Env → Res Out := fun ρ1 => evSs call lentOf b ρ1
@[simp] theorem cE_at (e : E) (ρ : Env) : cE call lentOf e ρ = opd (evE call lentOf e ρ) := rfl
@[simp] theorem cT_at (t : T) (ρ : Env) : cT call lentOf t ρ = evT call lentOf t ρ := rfl
@[simp] theorem tT_at (ρ : Env) : tT ρ = .ok (true, ρ) := rfl
@[simp] theorem cSr_at (s : Src) (ρ : Env) : cSr call lentOf s ρ = evSrc call lentOf s ρ := rfl
@[simp] theorem cB_at (b : Ss) (ρ : Env) : cB call lentOf b ρ = evSs call lentOf b ρ := rfl
@[simp] theorem x_E_nm {i} {ρ : Env} : evE call lentOf (.nm i : E) ρ = (match slot ρ i with
    | .un => .bad
    | .fz d => .ok (.d d, ρ)
    | _ => .ok (.own i, ρ)) := (rfl)
@[simp] theorem x_E_c {d} {ρ : Env} : evE call lentOf (.c d : E) ρ = (.ok (.d d, ρ)) := (rfl)
@[simp] theorem x_E_tup {es} {ρ : Env} : evE call lentOf (.tup es : E) ρ = ((evEs call lentOf es ρ).bind fun r => (Res.need (aliasL r.2 r.1)).bind fun q => if fits q.1.length then .ok (.d (.tuple q.1), q.2) else .bad) := (rfl)
@[simp] theorem x_E_lst {es} {ρ : Env} : evE call lentOf (.lst es : E) ρ = ((evEs call lentOf es ρ).bind fun r => (Res.need (aliasL r.2 r.1)).bind fun q => if fits q.1.length then .ok (.fr q.1, q.2) else .bad) := (rfl)
@[simp] theorem x_E_bin {op} {a} {b} {ρ : Env} : evE call lentOf (.bin op a b : E) ρ = (twoD (evE call lentOf a ρ) (fun ρ => evE call lentOf b ρ) (binV op)) := (rfl)
@[simp] theorem x_E_neg {a} {ρ : Env} : evE call lentOf (.neg a : E) ρ = (oneD (evE call lentOf a ρ) negV) := (rfl)
@[simp] theorem x_E_not {a} {ρ : Env} : evE call lentOf (.not a : E) ρ = (oneD (evE call lentOf a ρ) fun x => (truthD x).bind fun b => .ok (.d (.bool (!b)))) := (rfl)
@[simp] theorem x_E_and {a} {b} {ρ : Env} : evE call lentOf (.and a b : E) ρ = ((evE call lentOf a ρ).bind fun r => (Res.need (asBool r.1)).bind fun k => if k then evE call lentOf b r.2 else .ok (.d (.bool false), r.2)) := (rfl)
@[simp] theorem x_E_or {a} {b} {ρ : Env} : evE call lentOf (.or a b : E) ρ = ((evE call lentOf a ρ).bind fun r => (Res.need (asBool r.1)).bind fun k => if k then .ok (.d (.bool true), r.2) else evE call lentOf b r.2) := (rfl)
@[simp] theorem x_E_cmp {op} {a} {b} {ρ : Env} : evE call lentOf (.cmp op a b : E) ρ = (twoD (evE call lentOf a ρ) (fun ρ => evE call lentOf b ρ) fun x y => (cmpV op x y).bind fun k => .ok (.d (.bool k))) := (rfl)
@[simp] theorem x_E_chain {op} {op2} {a} {b} {c} {ρ : Env} : evE call lentOf (.chain op op2 a b c : E) ρ = ((opd (evE call lentOf a ρ)).bind fun x => (opd (evE call lentOf b x.2)).bind fun y => (Res.need (look y.2 x.1)).bind fun u => (Res.need (look y.2 y.1)).bind fun v => (cmpV op u v).bind fun k =>
      if k then (opd (evE call lentOf c y.2)).bind fun z => (Res.need (look z.2 y.1)).bind fun v => (Res.need (look z.2 z.1)).bind fun w => (cmpV op2 v w).bind fun k => .ok (.d (.bool k), z.2) else .ok (.d (.bool false), y.2)) := (rfl)
@[simp] theorem x_E_isN {a} {ρ : Env} : evE call lentOf (.isN a : E) ρ = (oneD (evE call lentOf a ρ) fun x => .ok (.d (.bool (isNoneD x)))) := (rfl)
@[simp] theorem x_E_notN {a} {ρ : Env} : evE call lentOf (.notN a : E) ρ = (oneD (evE call lentOf a ρ) fun x => .ok (.d (.bool (!isNoneD x)))) := (rfl)
@[simp] theorem x_E_ife {c} {a} {b} {ρ : Env} : evE call lentOf (.ife c a b : E) ρ = ((evT call lentOf c ρ).bind fun r => if r.1 then evE call lentOf a r.2 else evE call lentOf b r.2) := (rfl)
@[simp] theorem x_E_ix {a} {b} {ρ : Env} : evE call lentOf (.ix a b : E) ρ = (twoD (evE call lentOf a ρ) (fun ρ => evE call lentOf b ρ) ixV) := (rfl)
@[simp] theorem x_E_sl00 {a} {ρ : Env} : evE call lentOf (.sl00 a : E) ρ = (oneD (evE call lentOf a ρ) fun x => slV x none none) := (rfl)
@[simp] theorem x_E_sl10 {a} {lo} {ρ : Env} : evE call lentOf (.sl10 a lo : E) ρ = ((opd (evE call lentOf a ρ)).bind fun r => (evE call lentOf lo r.2).bind fun l => (Res.need (asInt l.1)).bind fun i => (Res.need (look l.2 r.1)).bind fun x => (slV x (some i) none).bind fun v => .ok (v, l.2)) := (rfl)
@[simp] theorem x_E_sl01 {a} {hi} {ρ : Env} : evE call lentOf (.sl01 a hi : E) ρ = ((opd (evE call lentOf a ρ)).bind fun r => (evE call lentOf hi r.2).bind fun l => (Res.need (asInt l.1)).bind fun i => (Res.need (look l.2 r.1)).bind fun x => (slV x none (some i)).bind fun v => .ok (v, l.2)) := (rfl)
@[simp] theorem x_E_sl11 {a} {lo} {hi} {ρ : Env} : evE call lentOf (.sl11 a lo hi : E) ρ = ((opd (evE call lentOf a ρ)).bind fun r => (evE call lentOf lo r.2).bind fun l => (Res.need (asInt l.1)).bind fun i => (evE call lentOf hi l.2).bind fun h => (Res.need (asInt h.1)).bind fun j =>
      (Res.need (look h.2 r.1)).bind fun x => (slV x (some i) (some j)).bind fun v => .ok (v, h.2)) := (rfl)
@[simp] theorem x_E_rev {a} {ρ : Env} : evE call lentOf (.rev a : E) ρ = (oneD (evE call lentOf a ρ) revV) := (rfl)
@[simp] theorem x_E_call {f} {es} {ρ : Env} : evE call lentOf (.call f es : E) ρ = ((evEs call lentOf es ρ).bind fun r => callV call lentOf f r.2 r.1) := (rfl)
@[simp] theorem x_E_callk {f} {es} {ks} {names} {perm} {ρ : Env} : evE call lentOf (.callk f es ks names perm : E) ρ = ((evEs call lentOf es ρ).bind fun r => (evEs call lentOf ks r.2).bind fun q => (Res.need (perm.mapM fun i => (r.1 ++ q.1)[i]?)).bind fun vs =>
      if q.1.length = names.length then callV call lentOf f q.2 vs else .bad) := (rfl)
@[simp] theorem x_E_bi {b} {es} {ρ : Env} : evE call lentOf (.bi b es : E) ρ = ((evEs call lentOf es ρ).bind fun r => (Res.need (lookL r.2 r.1)).bind fun ds => (biV b ds).bind fun v => .ok (v, r.2)) := (rfl)
@[simp] theorem x_E_isi {a} {t} {ρ : Env} : evE call lentOf (.isi a t : E) ρ = (oneD (evE call lentOf a ρ) fun x => .ok (.d (.bool (isTy t x)))) := (rfl)
theorem x_E_mut {m} {i} {es} {ρ : Env} : evE call lentOf (.mut m i es : E) ρ = (if isOwn (slot ρ i) then (evEs call lentOf es ρ).bind fun r => (Res.need (aliasL r.2 r.1)).bind fun q => (Res.need (mtV m (listOf (slot q.2 i)) q.1)).bind fun o =>
      (Res.need (change q.2 i fun _ => some o.2)).bind fun ρ1 => .ok (.d o.1, ρ1) else .bad) := (rfl)
@[simp] theorem x_E_comp {elt} {tg} {src} {own} {ρ : Env} : evE call lentOf (.comp elt tg src own : E) ρ = ((evSrc call lentOf src ρ).bind fun r =>
      (noEx (turns tg own tT (cE call lentOf elt) r.1 (wipeE r.2 own) [])).bind fun q => .ok (.fr q.1, restore r.2 q.2 own)) := (rfl)
@[simp] theorem x_E_compif {elt} {tg} {src} {cond} {own} {ρ : Env} : evE call lentOf (.compif elt tg src cond own : E) ρ = ((evSrc call lentOf src ρ).bind fun r =>
      (noEx (turns tg own (cT call lentOf cond) (cE call lentOf elt) r.1 (wipeE r.2 own) [])).bind fun q => .ok (.fr q.1, restore r.2 q.2 own)) := (rfl)
@[simp] theorem x_E_comp2 {elt} {tg} {src} {tg1} {src1} {own} {own1} {ρ : Env} : evE call lentOf (.comp2 elt tg src tg1 src1 own own1 : E) ρ = ((evSrc call lentOf src ρ).bind fun r =>
      (noEx (turns2 tg own (cSr call lentOf src1) tg1 own1 (cE call lentOf elt) r.1 (wipeE r.2 own) [])).bind fun q => if fits q.1.length then .ok (.fr q.1, restore r.2 q.2 own) else .bad) := (rfl)
@[simp] theorem x_E_isi2 {a} {t} {t2} {ρ : Env} : evE call lentOf (.isi2 a t t2 : E) ρ = (oneD (evE call lentOf a ρ) fun x => .ok (.d (.bool (isTy t x || isTy t2 x)))) := (rfl)
@[simp] theorem x_E_lenset {a} {ρ : Env} : evE call lentOf (.lenset a : E) ρ = (oneD (evE call lentOf a ρ) lenSetV) := (rfl)
@[simp] theorem x_E_sortset {a} {ρ : Env} : evE call lentOf (.sortset a : E) ρ = (oneD (evE call lentOf a ρ) sortSetV) := (rfl)
theorem x_E_rgl1 {tup} {a} {ρ : Env} : evE call lentOf (.rgl1 tup a : E) ρ = ((evE call lentOf a ρ).bind fun r => (Res.need (asInt r.1)).bind fun j => if rgFits 0 j then .ok (rgVal tup (rgList 0 j), r.2) else .bad) := (rfl)
theorem x_E_rgl2 {tup} {a} {b} {ρ : Env} : evE call lentOf (.rgl2 tup a b : E) ρ = ((evE call lentOf a ρ).bind fun r => (Res.need (asInt r.1)).bind fun i => (evE call lentOf b r.2).bind fun q => (Res.need (asInt q.1)).bind fun j => if rgFits i j then .ok (rgVal tup (rgList i j), q.2) else .bad) := (rfl)
@[simp] theorem x_T_not {a} {ρ : Env} : evT call lentOf (.not a : T) ρ = ((evT call lentOf a ρ).bind fun r => .ok (!r.1, r.2)) := (rfl)
@[simp] theorem x_T_and {a} {b} {ρ : Env} : evT call lentOf (.and a b : T) ρ = ((evT call lentOf a ρ).bind fun r => if r.1 then evT call lentOf b r.2 else .ok (false, r.2)) := (rfl)
@[simp] theorem x_T_or {a} {b} {ρ : Env} : evT call lentOf (.or a b : T) ρ = ((evT call lentOf a ρ).bind fun r => if r.1 then .ok (true, r.2) else evT call lentOf b r.2) := (rfl)
@[simp] theorem x_T_val {e} {ρ : Env} : evT call lentOf (.val e : T) ρ = ((opd (evE call lentOf e ρ)).bind fun r => (Res.need (look r.2 r.1)).bind fun x => (truthD x).bind fun b => .ok (b, r.2)) := (rfl)
@[simp] theorem x_Es_nil  {ρ : Env} : evEs call lentOf (.nil : Es) ρ = (.ok ([], ρ)) := (rfl)
@[simp] theorem x_Es_cons {e} {es} {ρ : Env} : evEs call lentOf (.cons e es : Es) ρ = ((opd (evE call lentOf e ρ)).bind fun r => (evEs call lentOf es r.2).bind fun q => .ok (r.1 :: q.1, q.2)) := (rfl)
@[simp] theorem x_Src_seq {e} {ρ : Env} : evSrc call lentOf (.seq e : Src) ρ = ((opd (evE call lentOf e ρ)).bind fun r => (Res.need (alias1 r.2 r.1)).bind fun q => (Res.need (seqOf q.1)).bind fun xs => .ok (xs, q.2)) := (rfl)
@[simp] theorem x_Src_zip {a} {b} {ρ : Env} : evSrc call lentOf (.zip a b : Src) ρ = ((opd (evE call lentOf a ρ)).bind fun r => (opd (evE call lentOf b r.2)).bind fun q =>
    (Res.need (aliasL q.2 [r.1, q.1])).bind fun z => (Res.need (zipD z.1)).bind fun xs => .ok (xs, z.2)) := (rfl)
@[simp] theorem x_Src_enum {e} {ρ : Env} : evSrc call lentOf (.enum e : Src) ρ = ((opd (evE call lentOf e ρ)).bind fun r => (Res.need (alias1 r.2 r.1)).bind fun q => (Res.need (enumD q.1)).bind fun xs => .ok (xs, q.2)) := (rfl)
theorem x_Src_rng1 {a} {ρ : Env} : evSrc call lentOf (.rng1 a : Src) ρ = ((evE call lentOf a ρ).bind fun r => (Res.need (asInt r.1)).bind fun j => if In62 j then .ok ((List.range j.toNat).map fun (k : Nat) => .int k, r.2) else .bad) := (rfl)
theorem x_Src_rng2 {a} {b} {ρ : Env} : evSrc call lentOf (.rng2 a b : Src) ρ = ((evE call lentOf a ρ).bind fun r => (evE call lentOf b r.2).bind fun q => (Res.need (asInt r.1)).bind fun i => (Res.need (asInt q.1)).bind fun j =>
    if rgFits i j then .ok ((List.range (j - i).toNat).map fun (k : Nat) => .int (i + k), q.2) else .bad) := (rfl)
@[simp] theorem x_S_asg {i} {keep} {e} {ρ : Env} : evS call lentOf (.asg i keep e : S) ρ = ((evE call lentOf e ρ).bind fun r => (Res.need (store r.2 i keep r.1)).bind fun ρ1 => .ok (.nx ρ1)) := (rfl)
@[simp] theorem x_S_asgT {tg} {e} {ρ : Env} : evS call lentOf (.asgT tg e : S) ρ = ((opd (evE call lentOf e ρ)).bind fun r => (Res.need (alias1 r.2 r.1)).bind fun q => (Res.need (storeTg q.2 tg q.1)).bind fun ρ1 => .ok (.nx ρ1)) := (rfl)
@[simp] theorem x_S_mul {is} {es} {ρ : Env} : evS call lentOf (.mul is es : S) ρ = ((evU call lentOf es ρ).bind fun r => (Res.need (aliasM r.2 r.1)).bind fun q => (Res.need (storeM q.2 is q.1)).bind fun ρ1 => .ok (.nx ρ1)) := (rfl)
@[simp] theorem x_S_setix {i} {ix} {e} {ρ : Env} : evS call lentOf (.setix i ix e : S) ρ = ((opd (evE call lentOf e ρ)).bind fun r => (Res.need (alias1 r.2 r.1)).bind fun q => if isOwn (slot q.2 i) then (evE call lentOf ix q.2).bind fun l => (Res.need (asInt l.1)).bind fun j =>
      (Res.need (change l.2 i (setAt j q.1))).bind fun ρ1 => .ok (.nx ρ1) else .bad) := (rfl)
@[simp] theorem x_S_swapix {i} {ix} {ix2} {e} {ρ : Env} : evS call lentOf (.swapix i ix ix2 e : S) ρ = ((opd (evE call lentOf e ρ)).bind fun r => (Res.need (alias1 r.2 r.1)).bind fun q => (Res.need (pairOf q.1)).bind fun uv => if isOwn (slot q.2 i) then (evE call lentOf ix q.2).bind fun l => (Res.need (asInt l.1)).bind fun j =>
      (Res.need (change l.2 i (setAt j uv.1))).bind fun ρ1 => (evE call lentOf ix2 ρ1).bind fun l2 => (Res.need (asInt l2.1)).bind fun j2 => (Res.need (change l2.2 i (setAt j2 uv.2))).bind fun ρ2 => .ok (.nx ρ2) else .bad) := (rfl)
@[simp] theorem x_S_aug {i} {op} {e} {ρ : Env} : evS call lentOf (.aug i op e : S) ρ = (match slot ρ i with
    | .fz x => (opd (evE call lentOf e ρ)).bind fun r => (Res.need (look r.2 r.1)).bind fun y => (augV op x y).bind fun z => (Res.need (store r.2 i false z)).bind fun ρ1 => .ok (.nx ρ1)
    | _ => .bad) := (rfl)
@[simp] theorem x_S_augix {i} {ix} {op} {e} {ρ : Env} : evS call lentOf (.augix i ix op e : S) ρ = (if isOwn (slot ρ i) then (evE call lentOf ix ρ).bind fun l => (Res.need (asInt l.1)).bind fun j => (Res.need (ixL (slot l.2 i) j)).bind fun x =>
      (opd (evE call lentOf e l.2)).bind fun r => (Res.need (look r.2 r.1)).bind fun y => (augI op x y).bind fun d =>
      (Res.need (change r.2 i (setAt j d))).bind fun ρ1 => .ok (.nx ρ1) else .bad) := (rfl)
@[simp] theorem x_S_ex {e} {ρ : Env} : evS call lentOf (.ex e : S) ρ = ((evE call lentOf e ρ).bind fun r => .ok (.nx r.2)) := (rfl)
@[simp] theorem x_S_ret {e} {ρ : Env} : evS call lentOf (.ret e : S) ρ = ((evE call lentOf e ρ).bind fun r => .ok (.ret r.1 r.2)) := (rfl)
@[simp] theorem x_S_retN  {ρ : Env} : evS call lentOf (.retN : S) ρ = (.ok (.ret (.d .none) ρ)) := (rfl)
@[simp] theorem x_S_ife {c} {a} {b} {ρ : Env} : evS call lentOf (.ife c a b : S) ρ = ((evT call lentOf c ρ).bind fun r => if r.1 then evSs call lentOf a r.2 else evSs call lentOf b r.2) := (rfl)
@[simp] theorem x_S_for {tg} {src} {body} {ρ : Env} : evS call lentOf (.for_ tg src body : S) ρ = ((evSrc call lentOf src ρ).bind fun r => forTurns tg (cB call lentOf body) r.1 r.2) := (rfl)
@[simp] theorem x_S_while {c} {body} {ρ : Env} : evS call lentOf (.while_ c body : S) ρ = (whileTurns (cT call lentOf c) (cB call lentOf body) wBound ρ) := (rfl)
@[simp] theorem x_S_pass  {ρ : Env} : evS call lentOf (.pass : S) ρ = (.ok (.nx ρ)) := (rfl)
@[simp] theorem x_S_never  {ρ : Env} : evS call lentOf (.never : S) ρ = (.bad) := (rfl)
@[simp] theorem x_S_brk  {ρ : Env} : evS call lentOf (.brk : S) ρ = (.ok (.bk ρ)) := (rfl)
@[simp] theorem x_S_cont  {ρ : Env} : evS call lentOf (.cont : S) ρ = (.ok (.ct ρ)) := (rfl)
@[simp] theorem x_Ss_nil  {ρ : Env} : evSs call lentOf (.nil : Ss) ρ = (.ok (.nx ρ)) := (rfl)
@[simp] theorem x_Ss_cons {s} {ss} {ρ : Env} : evSs call lentOf (.cons s ss : Ss) ρ = ((evS call lentOf s ρ).bind fun o => match o with
    | .nx ρ1 => evSs call lentOf ss ρ1
    | o => .ok o) := (rfl)
end
end PX
/-! PX, part s: laws about the evaluator, for the proofs of single laws. -/
namespace PX
open PySem PySem.Spec PyProof.Rows L2
@[simp] theorem in64_is (i : Int) : In64 i ↔ -(2 ^ 64) < i ∧ i < 2 ^ 64 := Iff.rfl
@[simp] theorem in20_is (i : Int) : In20 i ↔ 0 ≤ i ∧ i ≤ 1000000 := Iff.rfl
def isIo : Slot → Bool
  | .io _ => true
  | _ => false
theorem storeN_if (ρ : Env) (i : Nat) (d : D) : storeN ρ i d = if isIo (slot ρ i) then none else if i < ρ.length then some (ρ.set i (.fz d)) else none := by
  unfold storeN
  cases slot ρ i <;> rfl
theorem store_if (ρ : Env) (i : Nat) (k : Bool) (v : Val) : store ρ i k v = if isIo (slot ρ i) then none else storeV ρ i k v := by
  unfold store
  cases slot ρ i <;> rfl
theorem slot_cons0 (a : Slot) (ρ : Env) : slot (a :: ρ) 0 = a := rfl
theorem slot_cons (a : Slot) (ρ : Env) (i : Nat) : slot (a :: ρ) (i + 1) = slot ρ i := by
  unfold slot; rw [List.getElem?_cons_succ]
/-- a for loop that runs through -/
theorem forTurns_ok {tg : Tg} {body : Env → Res Out} (I : Nat → Env → Prop) : ∀ {xs : List D} {ρ : Env} (k : Nat), (∀ j x ρ, xs[j]? = some x → I (k + j) ρ → ∃ ρ1 ρ2, storeTg ρ tg x = some ρ1 ∧ body ρ1 = .ok (.nx ρ2) ∧ I (k + j + 1) ρ2) → I k ρ →
    ∃ ρ', forTurns tg body xs ρ = .ok (.nx ρ') ∧ I (k + xs.length) ρ'
  | [], ρ, k, _, h0 => ⟨ρ, rfl, h0⟩
  | x :: xs, ρ, k, h, h0 => by
    obtain ⟨ρ1, ρ2, e1, e2, e3⟩ := h 0 x ρ rfl h0
    obtain ⟨ρ', e4, e5⟩ := forTurns_ok I (xs := xs) (ρ := ρ2) (k + 1) (fun j y ρ3 hj hI => by
      have := h (j + 1) y ρ3 (by simpa using hj) (by rw [show k + (j + 1) = k + 1 + j by omega]; exact hI)
      rw [show k + (j + 1) = k + 1 + j by omega] at this
      exact this) e3
    refine ⟨ρ', ?_, by rw [List.length_cons, show k + (xs.length + 1) = k + 1 + xs.length by omega]; exact e5⟩
    unfold forTurns
    rw [e1]
    show (body ρ1).bind _ = _
    rw [e2]
    exact e4
/-- a comprehension's turns that run through -/
theorem turns_ok {tg : Tg} {own : List Nat} {test : Env → Res (Bool × Env)} {elt : Env → Res (Val × Env)} (I : Nat → Env → List D → Prop) : ∀ {xs : List D} {ρ : Env} {acc : List D} (k : Nat),
    (∀ j x ρ acc, xs[j]? = some x → I (k + j) ρ acc → ∃ ρ1 b ρ2, storeTg ρ tg x = some ρ1 ∧ test ρ1 = .ok (b, ρ2) ∧
      (b = true → ∃ v ρ3 y ρ4, elt ρ2 = .ok (v, ρ3) ∧ alias1 ρ3 v = some (y, ρ4) ∧ I (k + j + 1) (wipeE ρ4 own) (acc ++ [y])) ∧ (b = false → I (k + j + 1) (wipeE ρ2 own) acc)) → I k ρ acc →
    ∃ ρ' acc', turns tg own test elt xs ρ acc = .ok (acc', ρ') ∧ I (k + xs.length) ρ' acc'
  | [], ρ, acc, k, _, h0 => ⟨ρ, acc, rfl, h0⟩
  | x :: xs, ρ, acc, k, h, h0 => by
    obtain ⟨ρ1, b, ρ2, e1, e2, e3, e4⟩ := h 0 x ρ acc rfl h0
    have st : ∀ j y ρ acc, xs[j]? = some y → I (k + 1 + j) ρ acc → _ := fun j y ρ3 acc hj hI => by
      have := h (j + 1) y ρ3 acc (by simpa using hj) (by rw [show k + (j + 1) = k + 1 + j by omega]; exact hI)
      rw [show k + (j + 1) = k + 1 + j by omega] at this
      exact this
    cases b with
    | true =>
      obtain ⟨v, ρ3, y, ρ4, e5, e6, e7⟩ := e3 rfl
      obtain ⟨ρ', acc', e8, e9⟩ := turns_ok I (xs := xs) (k + 1) st e7
      refine ⟨ρ', acc', ?_, by rw [List.length_cons, show k + (xs.length + 1) = k + 1 + xs.length by omega]; exact e9⟩
      simp [turns, e1, e2, e5, e6, e8]
    | false =>
      obtain ⟨ρ', acc', e8, e9⟩ := turns_ok I (xs := xs) (k + 1) st (e4 rfl)
      refine ⟨ρ', acc', ?_, by rw [List.length_cons, show k + (xs.length + 1) = k + 1 + xs.length by omega]; exact e9⟩
      simp [turns, e1, e2, e8]
/-- a comprehension that only reads -/
theorem turns_map {tg : Tg} {own : List Nat} {elt : Env → Res (Val × Env)} {ρ : Env} (f : D → D) : ∀ {xs acc : List D}, (∀ x ∈ xs, ∃ ρ1, storeTg ρ tg x = some ρ1 ∧ elt ρ1 = .ok (.d (f x), ρ1) ∧ wipeE ρ1 own = ρ) →
    turns tg own tT elt xs ρ acc = .ok (acc ++ xs.map f, ρ)
  | [], acc, _ => by simp [turns]
  | x :: xs, acc, h => by
    obtain ⟨ρ1, e1, e2, e3⟩ := h x List.mem_cons_self
    simp [turns, e1, e2, alias1, e3, turns_map f (xs := xs) fun y hy => h y (List.mem_cons_of_mem _ hy)]
theorem asBools_map {α : Type} (f : α → Bool) : ∀ xs : List α, asBools (xs.map fun x => PyData.bool (f x)) = some (xs.map f)
  | [] => rfl
  | x :: xs => by
    show (asBools (xs.map fun x => PyData.bool (f x))).map (f x :: ·) = _
    rw [asBools_map f xs]
    rfl
theorem asInts_map {α : Type} (f : α → Int) : ∀ xs : List α, asInts (xs.map fun x => PyData.int (f x)) = some (xs.map f)
  | [] => rfl
  | x :: xs => by
    show (asInts (xs.map fun x => PyData.int (f x))).map (f x :: ·) = _
    rw [asInts_map f xs]
    rfl
theorem atI_nat {xs : List D} {k : Nat} (h : k < xs.length) : atI xs (k : Int) = xs[k]? := by
  have e : ixN xs.length (k : Int) = some k := by
    unfold ixN
    rw [if_pos (by omega), if_pos (by omega)]
    rfl
  unfold atI
  rw [e]
  rfl
end PX
/-! PX, part t: more laws about the evaluator, plain laws of lists. -/
namespace PX
open PySem PySem.Spec PyProof.Rows L2
/-- a comprehension with a test, both only reading -/
theorem turns_filter {tg : Tg} {own : List Nat} {test : Env → Res (Bool × Env)} {elt : Env → Res (Val × Env)} {ρ : Env} (p : D → Bool) (f : D → D) : ∀ {xs acc : List D},
    (∀ x ∈ xs, ∃ ρ1, storeTg ρ tg x = some ρ1 ∧ test ρ1 = .ok (p x, ρ1) ∧ (p x = true → elt ρ1 = .ok (.d (f x), ρ1)) ∧ wipeE ρ1 own = ρ) →
    turns tg own test elt xs ρ acc = .ok (acc ++ (xs.filter p).map f, ρ)
  | [], acc, _ => by simp [turns]
  | x :: xs, acc, h => by
    obtain ⟨ρ1, e1, e2, e3, e4⟩ := h x List.mem_cons_self
    have ih := fun acc => turns_filter p f (xs := xs) (acc := acc) fun y hy => h y (List.mem_cons_of_mem _ hy)
    cases hp : p x with
    | true => simp [turns, e1, e2, hp, e3 hp, alias1, e4, ih]
    | false => simp [turns, e1, e2, hp, e4, ih]
/-- the same over data told by others -/
theorem turns_mapG {β : Type} {tg : Tg} {own : List Nat} {elt : Env → Res (Val × Env)} {ρ : Env} (g f : β → D) : ∀ {ys : List β} {acc : List D}, (∀ y ∈ ys, ∃ ρ1, storeTg ρ tg (g y) = some ρ1 ∧ elt ρ1 = .ok (.d (f y), ρ1) ∧ wipeE ρ1 own = ρ) →
    turns tg own tT elt (ys.map g) ρ acc = .ok (acc ++ ys.map f, ρ)
  | [], acc, _ => by simp [turns]
  | x :: xs, acc, h => by
    obtain ⟨ρ1, e1, e2, e3⟩ := h x List.mem_cons_self
    simp [turns, e1, e2, alias1, e3, turns_mapG g f (ys := xs) fun y hy => h y (List.mem_cons_of_mem _ hy)]
theorem turns_filterG {β : Type} {tg : Tg} {own : List Nat} {test : Env → Res (Bool × Env)} {elt : Env → Res (Val × Env)} {ρ : Env} (g : β → D) (p : β → Bool) (f : β → D) : ∀ {ys : List β} {acc : List D},
    (∀ y ∈ ys, ∃ ρ1, storeTg ρ tg (g y) = some ρ1 ∧ test ρ1 = .ok (p y, ρ1) ∧ (p y = true → elt ρ1 = .ok (.d (f y), ρ1)) ∧ wipeE ρ1 own = ρ) →
    turns tg own test elt (ys.map g) ρ acc = .ok (acc ++ (ys.filter p).map f, ρ)
  | [], acc, _ => by simp [turns]
  | x :: xs, acc, h => by
    obtain ⟨ρ1, e1, e2, e3, e4⟩ := h x List.mem_cons_self
    have ih := fun acc => turns_filterG g p f (ys := xs) (acc := acc) fun y hy => h y (List.mem_cons_of_mem _ hy)
    cases hp : p x with
    | true => simp [turns, e1, e2, hp, e3 hp, alias1, e4, ih]
    | false => simp [turns, e1, e2, hp, e4, ih]
theorem forTurns_nx {tg : Tg} {body : Env → Res Out} {x : D} {xs : List D} {ρ ρ1 ρ2 : Env} (e1 : storeTg ρ tg x = some ρ1) (e2 : body ρ1 = .ok (.nx ρ2)) : forTurns tg body (x :: xs) ρ = forTurns tg body xs ρ2 := by
  simp [forTurns, e1, e2]
/-- a loop that ends by a return at the first turn for which p holds -/
theorem forTurns_ret {β : Type} {tg : Tg} {body : Env → Res Out} (g : β → D) (p : β → Bool) (v : β → Val) (I : Env → Prop) : ∀ {ys : List β} {ρ : Env},
    (∀ y ∈ ys, ∀ ρ, I ρ → ∃ ρ1, storeTg ρ tg (g y) = some ρ1 ∧ (p y = false → ∃ ρ2, body ρ1 = .ok (.nx ρ2) ∧ I ρ2) ∧ (p y = true → ∃ ρ2, body ρ1 = .ok (.ret (v y) ρ2))) → I ρ →
    (ys.find? p = none ∧ ∃ ρ', forTurns tg body (ys.map g) ρ = .ok (.nx ρ') ∧ I ρ') ∨ ∃ y ρ', ys.find? p = some y ∧ forTurns tg body (ys.map g) ρ = .ok (.ret (v y) ρ')
  | [], ρ, _, h0 => .inl ⟨rfl, ρ, rfl, h0⟩
  | y :: ys, ρ, h, h0 => by
    obtain ⟨ρ1, e1, e2, e3⟩ := h y List.mem_cons_self ρ h0
    rw [List.map_cons, List.find?_cons]
    cases hp : p y with
    | true =>
      obtain ⟨ρ2, e4⟩ := e3 hp
      exact .inr ⟨y, ρ2, rfl, by simp [forTurns, e1, e4]⟩
    | false =>
      obtain ⟨ρ2, e4, h2⟩ := e2 hp
      rw [forTurns_nx e1 e4]
      exact forTurns_ret g p v I (ys := ys) (fun z hz => h z (List.mem_cons_of_mem _ hz)) h2
/-- one statement behind the other -/
theorem ss_nx {call : CallT} {lo : String → Option (List Nat)} {s : S} {ss : Ss} {ρ ρ1 : Env} (h : evS call lo s ρ = .ok (.nx ρ1)) : evSs call lo (.cons s ss) ρ = evSs call lo ss ρ1 := by
  rw [x_Ss_cons, h]
  rfl
theorem ss_ret {call : CallT} {lo : String → Option (List Nat)} {s : S} {ss : Ss} {ρ ρ1 : Env} {v : Val} (h : evS call lo s ρ = .ok (.ret v ρ1)) : evSs call lo (.cons s ss) ρ = .ok (.ret v ρ1) := by
  rw [x_Ss_cons, h]
  rfl
theorem for_run {call : CallT} {lo : String → Option (List Nat)} {tg : Tg} {src : Src} {body : Ss} {ρ ρ1 : Env} {xs : List D} {r : Res Out} (e : evSrc call lo src ρ = .ok (xs, ρ1)) (h : forTurns tg (cB call lo body) xs ρ1 = r) : evS call lo (.for_ tg src body) ρ = r := by
  rw [x_S_for, e]
  exact h
theorem comp_run {call : CallT} {lo : String → Option (List Nat)} {elt : E} {tg : Tg} {src : Src} {own : List Nat} {ρ ρ1 ρ2 : Env} {xs acc : List D} (e : evSrc call lo src ρ = .ok (xs, ρ1)) (h : turns tg own tT (cE call lo elt) xs (wipeE ρ1 own) [] = .ok (acc, ρ2)) : evE call lo (.comp elt tg src own) ρ = .ok (.fr acc, restore ρ1 ρ2 own) := by
  rw [x_E_comp, e, bind_ok, h]
  rfl
theorem compif_run {call : CallT} {lo : String → Option (List Nat)} {elt : E} {tg : Tg} {src : Src} {cond : T} {own : List Nat} {ρ ρ1 ρ2 : Env} {xs acc : List D} (e : evSrc call lo src ρ = .ok (xs, ρ1)) (h : turns tg own (cT call lo cond) (cE call lo elt) xs (wipeE ρ1 own) [] = .ok (acc, ρ2)) : evE call lo (.compif elt tg src cond own) ρ = .ok (.fr acc, restore ρ1 ρ2 own) := by
  rw [x_E_compif, e, bind_ok, h]
  rfl
theorem call_ret {P : Prog} {f : String} {fd : FDef} {n : Nat} {as : List Arg} {ρ1 : Env} {v z : Val} {l : List (List D)} (hf : P.lookup f = some fd) (ha : as.length = fd.par ∧ argsFit fd.lent 0 as = true)
    (he : evSs (callN P n) (lentIn P) fd.body (startE fd 0 as) = .ok (.ret v ρ1)) (hl : lentBack ρ1 fd.lent = some l) (hz : handBack ρ1 v = some z) : callN P (n + 1) f as = .ok (z, l) := by
  have e : callN P (n + 1) f as = runF (callN P n) (lentIn P) fd as := by
    show (match P.lookup f with | none => (Res.bad : Res Ret) | some fd => runF (callN P n) (lentIn P) fd as) = _
    rw [hf]
  rw [e]
  unfold runF
  rw [if_pos ha, he, bind_ok]
  show (Res.need (lentBack ρ1 fd.lent)).bind _ = _
  rw [hl, need_some, bind_ok, hz, need_some, bind_ok]
theorem call_nx {P : Prog} {f : String} {fd : FDef} {n : Nat} {as : List Arg} {ρ1 : Env} {l : List (List D)} (hf : P.lookup f = some fd) (ha : as.length = fd.par ∧ argsFit fd.lent 0 as = true)
    (he : evSs (callN P n) (lentIn P) fd.body (startE fd 0 as) = .ok (.nx ρ1)) (hl : lentBack ρ1 fd.lent = some l) : callN P (n + 1) f as = .ok (.d .none, l) := by
  have e : callN P (n + 1) f as = runF (callN P n) (lentIn P) fd as := by
    show (match P.lookup f with | none => (Res.bad : Res Ret) | some fd => runF (callN P n) (lentIn P) fd as) = _
    rw [hf]
  rw [e]
  unfold runF
  rw [if_pos ha, he, bind_ok]
  show (Res.need (lentBack ρ1 fd.lent)).bind _ = _
  rw [hl, need_some, bind_ok]
theorem range_at {n j : Nat} {x : D} (h : ((List.range n).map fun (k : Nat) => PyData.int k)[j]? = some x) : j < n ∧ x = .int (j : Nat) := by
  rcases Nat.lt_or_ge j n with q | q
  · rw [List.getElem?_map, List.getElem?_range q] at h
    cases h
    exact ⟨q, rfl⟩
  · rw [List.getElem?_eq_none (by simpa using q)] at h
    cases h
theorem eqvAll_ints : ∀ a b : List Int, PyData.eqvAll (a.map PyData.int) (b.map PyData.int) = (a == b)
  | [], [] => by simp [PyData.eqvAll]
  | [], _ :: _ => by simp [PyData.eqvAll]
  | _ :: _, [] => by simp [PyData.eqvAll]
  | a :: as, b :: bs => by
    have := eqvAll_ints as bs
    simp only [List.map_cons, PyData.eqvAll, this, PyData.eqv]
    rfl
theorem eqvAll_nil (xs : List D) : PyData.eqvAll xs [] = xs.isEmpty := by cases xs <;> simp [PyData.eqvAll]
theorem asInts_ints (ns : List Int) : asInts (ns.map PyData.int) = some ns := by
  have := asInts_map (fun x : Int => x) ns
  simpa using this
theorem inD_ints (x : Int) (ns : List Int) : inD (.int x) (ns.map PyData.int) = ns.any (· == x) := by
  unfold inD
  rw [List.any_map]
  have : ((fun y => PyData.eqv y (.int x)) ∘ PyData.int) = fun y : Int => y == x := by funext y; simp [PyData.eqv]
  rw [this]
theorem flat_ints (ns : List Int) : (ns.map PyData.int).all flatD = true := by
  rw [List.all_eq_true]
  intro d hd
  obtain ⟨i, _, rfl⟩ := List.mem_map.mp hd
  rfl
/-! ### sorted -/
theorem sortZ_perm (a : List Int) : (sortZ a).Perm a := List.mergeSort_perm _ _
theorem sortZ_le (a : List Int) : (sortZ a).Pairwise (· ≤ ·) := by
  have := List.pairwise_mergeSort (le := fun a b : Int => decide (a ≤ b)) (fun a b c h1 h2 => by simp at *; omega) (fun a b => by simp; omega) a
  exact this.imp fun h => by simpa using h
theorem sortZ_congr {a b : List Int} (h : a.Perm b) : sortZ a = sortZ b :=
  List.Perm.eq_of_pairwise (fun x y _ _ h1 h2 => Int.le_antisymm h1 h2) (sortZ_le a) (sortZ_le b) ((sortZ_perm a).trans (h.trans (sortZ_perm b).symm))
theorem sortZ_lt {a : List Int} (h : a.Nodup) : (sortZ a).Pairwise (· < ·) := by
  have h1 := sortZ_le a
  have h2 : (sortZ a).Nodup := (sortZ_perm a).nodup_iff.mpr h
  have := h1.and h2
  exact this.imp fun ⟨p, q⟩ => by omega
/-- the columns 0 .. n-1 -/
def colsZ (n : Nat) : List Int := (List.range n).map fun (k : Nat) => (k : Int)
theorem mem_cols {n : Nat} {i : Int} : i ∈ colsZ n ↔ 0 ≤ i ∧ i < n := by
  unfold colsZ
  rw [List.mem_map]
  constructor
  · rintro ⟨k, hk, rfl⟩
    have := List.mem_range.mp hk
    omega
  · rintro ⟨h0, h1⟩
    exact ⟨i.toNat, List.mem_range.mpr (by omega), by omega⟩
theorem cols_len (n : Nat) : (colsZ n).length = n := by simp [colsZ]
theorem cols_lt (n : Nat) : (colsZ n).Pairwise (· < ·) := by
  unfold colsZ
  rw [List.pairwise_map]
  exact List.pairwise_lt_range.imp fun h => by omega
theorem lt_nodup {a : List Int} (h : a.Pairwise (· < ·)) : a.Nodup := h.imp fun h => by omega
theorem cols_data (n : Nat) : ((List.range n).map fun (k : Nat) => PyData.int k) = (colsZ n).map PyData.int := by simp [colsZ]
theorem rgList_cols (n : Nat) : rgList 0 (n : Int) = (colsZ n).map PyData.int := by
  unfold rgList colsZ
  simp
theorem rg_fits {m : Nat} (h : m ≤ 1000) : rgFits 0 (m : Int) := by
  unfold rgFits
  omega
theorem rg_if {α : Type} {m : Nat} (h : m ≤ 1000) (a b : α) : (if rgFits 0 (m : Int) then a else b) = a := if_pos (rg_fits h)
theorem rg_step {α : Type} {z : Val} {i j : Int} (hz : asInt z = some j) (h : rgFits i j) (k : Int → Res α) : ((Res.need (asInt z)).bind fun j => if rgFits i j then k j else .bad) = k j := by
  rw [hz, need_some, bind_ok, if_pos h]
theorem rgl1_at {call : CallT} {lo : String → Option (List Nat)} {a : E} {ρ ρ1 : Env} {m : Nat} (h : evE call lo a ρ = .ok (.d (.int (m : Int)), ρ1)) (hm : m ≤ 1000) : evE call lo (.rgl1 false a) ρ = .ok (.fr ((colsZ m).map PyData.int), ρ1) := by
  rw [x_E_rgl1, h, bind_ok]
  rw [rg_step (j := (m : Int)) rfl (rg_fits hm) (fun j => .ok (rgVal false (rgList 0 j), ρ1)), rgList_cols]
  rfl
theorem ixN_nat {n d : Nat} (h : d < n) : ixN n (d : Int) = some d := by
  unfold ixN
  rw [if_pos (by omega), if_pos (by omega)]
  rfl
theorem if_some {α : Type} {p : Prop} [Decidable p] (h : p) (a b : Option α) : (if p then a else b) = a := if_pos h
theorem mt_popAt {xs : List D} {d : Nat} (h : d < xs.length) (hl : d ≤ 1000000) : mtV .popAt xs [.int (d : Int)] = some (xs[d], xs.eraseIdx d) := by
  unfold mtV
  refine (if_some (show In63 (d : Int) by unfold In63; omega) _ _).trans ?_
  rw [ixN_nat h]
  show xs[d]?.map _ = _
  rw [List.getElem?_eq_getElem h]
  rfl
theorem mut_run {call : CallT} {lo : String → Option (List Nat)} {m : Mt} {i : Nat} {es : Es} {ρ ρ1 ρ2 ρ3 : Env} {vs : List Val} {ds : List D} {o : D × List D} (ho : isOwn (slot ρ i) = true) (e : evEs call lo es ρ = .ok (vs, ρ1)) (ha : aliasL ρ1 vs = some (ds, ρ2))
    (hm : mtV m (listOf (slot ρ2 i)) ds = some o) (hc : change ρ2 i (fun _ => some o.2) = some ρ3) : evE call lo (.mut m i es) ρ = .ok (.d o.1, ρ3) := by
  rw [x_E_mut, if_pos ho, e, bind_ok, ha, need_some, bind_ok, hm, need_some, bind_ok, hc, need_some, bind_ok]
theorem rng1_at {call : CallT} {lo : String → Option (List Nat)} {a : E} {ρ ρ1 : Env} {m : Nat} (h : evE call lo a ρ = .ok (.d (.int (m : Int)), ρ1)) (hm : m ≤ 1000) : evSrc call lo (.rng1 a) ρ = .ok ((List.range m).map fun (k : Nat) => PyData.int k, ρ1) := by
  rw [x_Src_rng1, h, bind_ok]
  have e : ((Res.need (asInt (.d (.int (m : Int))))).bind fun j => if In62 j then (.ok ((List.range j.toNat).map fun (k : Nat) => PyData.int k, ρ1) : Res (List D × Env)) else .bad) = .ok ((List.range m).map fun (k : Nat) => PyData.int k, ρ1) := by
    rw [show asInt (.d (.int (m : Int))) = some (m : Int) from rfl, need_some, bind_ok, if_pos (show In62 (m : Int) by unfold In62; omega), Int.toNat_natCast]
  exact e
/-! ### places -/
/-- where the columns for which p holds stand, from k on -/
def pl {α : Type} (p : α → Bool) : List α → Int → List Int
  | [], _ => []
  | x :: xs, k => if p x then k :: pl p xs (k + 1) else pl p xs (k + 1)
theorem pl_app {α : Type} (p : α → Bool) : ∀ (a b : List α) (k : Int), pl p (a ++ b) k = pl p a k ++ pl p b (k + a.length)
  | [], b, k => by simp [pl]
  | x :: a, b, k => by
    have := pl_app p a b (k + 1)
    have e : k + 1 + (a.length : Int) = k + ((a.length : Int) + 1) := by omega
    rw [e] at this
    simp only [List.cons_append, pl, List.length_cons, Int.natCast_add, Int.natCast_one, this]
    split <;> simp
theorem pl_shift {α : Type} (p : α → Bool) : ∀ (a : List α) (k m : Int), pl p a (k + m) = (pl p a k).map (· + m)
  | [], _, _ => rfl
  | x :: a, k, m => by
    have := pl_shift p a (k + 1) m
    rw [show k + 1 + m = k + m + 1 by omega] at this
    simp only [pl, this]
    split <;> simp
theorem pl_rev {α : Type} (p : α → Bool) : ∀ xs : List α, pl p xs.reverse 0 = ((pl p xs 0).map fun i => (xs.length : Int) - 1 - i).reverse
  | [] => rfl
  | x :: xs => by
    have h1 := pl_shift p xs 0 1
    rw [List.reverse_cons, pl_app, pl_rev p xs]
    simp only [pl, List.length_reverse, List.length_cons]
    rw [h1]
    have e : (fun i : Int => ((xs.length + 1 : Nat) : Int) - 1 - i) ∘ (fun i : Int => i + 1) = fun i : Int => (xs.length : Int) - 1 - i := by
      funext i
      simp
      omega
    cases hp : p x with
    | true =>
      simp only [if_true, List.map_cons, List.map_map, e, List.reverse_cons]
      simp
    | false =>
      simp only [Bool.false_eq_true, if_false, List.map_map, e]
      simp
def span (l : List Int) : Bool := match l.head?, l.getLast? with
  | some a, some b => b - a == (l.length : Int) - 1
  | _, _ => true
theorem span_rev (l : List Int) (c : Int) : span ((l.map fun i => c - i).reverse) = span l := by
  unfold span
  rw [List.head?_reverse, List.getLast?_reverse, List.getLast?_map, List.head?_map]
  cases l.head? with
  | none => cases l.getLast? <;> rfl
  | some a =>
    cases l.getLast? with
    | none => rfl
    | some b =>
      simp only [Option.map_some, List.length_reverse, List.length_map]
      have : c - a - (c - b) = b - a := by omega
      rw [this]
/-- the columns of row stand side by side -/
def near (own row : List Int) : Bool := span (pl (fun x => row.any (· == x)) own 0)
theorem near_rev (own row : List Int) : near own.reverse row = near own row := by
  unfold near
  rw [pl_rev, span_rev]
theorem near_nil (own : List Int) : near own [] = true := by
  have : ∀ (xs : List Int) (k : Int), pl (fun x => ([] : List Int).any (· == x)) xs k = [] := by
    intro xs
    induction xs with
    | nil => intro k; rfl
    | cons x xs ih => intro k; have := ih (k + 1); simp only [pl, List.any_nil] at this ⊢; simpa using this
  unfold near
  rw [this]
  rfl
theorem pl_ne {α : Type} {p : α → Bool} : ∀ {own : List α} {k : Int}, (∃ x ∈ own, p x = true) → pl p own k ≠ []
  | [], _, ⟨_, h, _⟩ => by cases h
  | x :: xs, k, ⟨y, h, hy⟩ => by
    unfold pl
    rcases List.mem_cons.mp h with rfl | h
    · simp [hy]
    · split
      · simp
      · exact pl_ne ⟨y, h, hy⟩
theorem pl_len {α : Type} (p : α → Bool) : ∀ (own : List α) (k : Int), (pl p own k).length ≤ own.length
  | [], _ => Nat.le_refl _
  | x :: xs, k => by
    have := pl_len p xs (k + 1)
    unfold pl
    split <;> simp only [List.length_cons] <;> omega
def atP {α : Type} (p : α → Bool) (own : List α) (i : Nat) : Bool := match own[i]? with
  | some x => p x
  | none => false
theorem pl_range {α : Type} (p : α → Bool) : ∀ (own : List α) (k : Int), pl p own k = ((List.range own.length).filter (atP p own)).map fun (i : Nat) => k + (i : Int)
  | [], _ => rfl
  | x :: xs, k => by
    have ih := pl_range p xs (k + 1)
    rw [List.length_cons, List.range_succ_eq_map, List.filter_cons, List.filter_map]
    have e1 : (atP p (x :: xs)) ∘ Nat.succ = atP p xs := by funext i; simp [atP]
    have e0 : atP p (x :: xs) 0 = p x := rfl
    rw [e1, e0]
    unfold pl
    have e2 : ((fun i : Nat => k + (i : Int)) ∘ Nat.succ) = fun i : Nat => k + 1 + (i : Int) := by funext i; simp; omega
    split <;> simp only [List.map_cons, List.map_map, e2, ih] <;> simp
/-- the same by enumerate -/
theorem pl_enum {α : Type} (p : α → Bool) : ∀ (own : List α) (k : Nat), ((own.zipIdx k).filter fun q => p q.1).map (fun q => PyData.int q.2) = (pl p own k).map PyData.int
  | [], _ => rfl
  | x :: xs, k => by
    have ih := pl_enum p xs (k + 1)
    have e : (((k + 1 : Nat) : Int)) = (k : Int) + 1 := by omega
    rw [e] at ih
    simp only [List.zipIdx_cons, List.filter_cons]
    unfold pl
    split <;> simp only [List.map_cons, ih]
theorem pl_find {α : Type} (p : α → Bool) : ∀ (own : List α) (k : Nat), ((own.zipIdx k).find? fun q => p q.1).map (fun q => (q.2 : Int)) = (pl p own k).head?
  | [], _ => rfl
  | x :: xs, k => by
    have ih := pl_find p xs (k + 1)
    have e : (((k + 1 : Nat) : Int)) = (k : Int) + 1 := by omega
    rw [e] at ih
    simp only [List.zipIdx_cons, List.find?_cons]
    unfold pl
    cases hp : p x with
    | true => simp
    | false => simpa using ih
theorem pl_all {α : Type} (p : α → Bool) : ∀ (own : List α) (k : Int), (pl (fun x => !p x) own k).isEmpty = own.all p
  | [], _ => rfl
  | x :: xs, k => by
    have ih := pl_all p xs (k + 1)
    unfold pl
    rw [List.all_cons]
    cases hp : p x with
    | true => simpa using ih
    | false => simp
theorem swap_perm {xs : List Int} {i : Nat} (h : i + 1 < xs.length) : ((xs.set i xs[i + 1]).set (i + 1) (xs[i]'(by omega))).Perm xs := by
  have e : xs = xs.take i ++ xs[i]'(by omega) :: xs[i + 1] :: xs.drop (i + 2) := by
    rw [List.getElem_cons_drop, List.getElem_cons_drop, List.take_append_drop]
  have hl : (xs.take i).length = i := by rw [List.length_take]; omega
  generalize xs.take i = A at e hl
  generalize xs.drop (i + 2) = B at e
  generalize xs[i + 1] = b at e ⊢
  generalize xs[i]'(by omega) = a at e ⊢
  subst e
  rw [List.set_append_right _ _ (by omega), hl, Nat.sub_self, List.set_cons_zero, List.set_append_right _ _ (by omega), hl, show i + 1 - i = 1 by omega, List.set_cons_succ, List.set_cons_zero]
  exact List.Perm.append_left A (List.Perm.swap _ _ _)
theorem erase_perm {xs : List Int} {i : Nat} (h : i < xs.length) : (xs[i] :: xs.eraseIdx i).Perm xs := by
  have e : xs = xs.take i ++ xs[i] :: xs.drop (i + 1) := by rw [List.getElem_cons_drop, List.take_append_drop]
  rw [List.eraseIdx_eq_take_drop_succ]
  conv => rhs; rw [e]
  exact List.perm_middle.symm
end PX
namespace PX
open PySem PySem.Spec PyProof.Rows L2
/-! the defs' forms (printed) -/
def f_is_integer : FDef := ⟨1, [], ["value"],
  (.cons (.ret (.and (.isi (.nm 0) .int) (.not (.isi (.nm 0) .bool)))) .nil)⟩
def f_is_natural : FDef := ⟨1, [], ["value"],
  (.cons (.ret (.and (.call "is_integer" (.cons (.nm 0) .nil)) (.cmp .GtE (.nm 0) (.c (.int (0)))))) .nil)⟩
def f_are_naturals : FDef := ⟨1, [], ["value", "own"],
  (.cons (.ret (.and (.isi (.nm 0) .tuple) (.bi .all (.cons (.comp (.call "is_natural" (.cons (.nm 1) .nil)) (.nm 1) (.seq (.nm 0)) [1]) .nil)))) .nil)⟩
def f_is_set : FDef := ⟨1, [], ["value", "own", "more"],
  (.cons (.ret (.and (.call "are_naturals" (.cons (.nm 0) .nil)) (.bi .all (.cons (.comp (.cmp .Lt (.nm 1) (.nm 2)) (.tp [1, 2]) (.zip (.nm 0) (.sl10 (.nm 0) (.c (.int (1))))) [1, 2]) .nil)))) .nil)⟩
def f_is_table_of : FDef := ⟨1, [], ["value", "row"],
  (.cons (.ife (.or (.not (.val (.isi (.nm 0) .tuple))) (.or (.val (.cmp .NotEq (.bi .len (.cons (.nm 0) .nil)) (.c (.int (2))))) (.or (.not (.val (.call "is_natural" (.cons (.ix (.nm 0) (.c (.int (0)))) .nil)))) (.not (.val (.isi (.ix (.nm 0) (.c (.int (1)))) .tuple))))))
    (.cons (.ret (.c (.bool false))) .nil) .nil)
  (.cons (.ret (.bi .all (.cons (.comp (.and (.call "is_set" (.cons (.nm 1) .nil)) (.or (.cmp .Eq (.nm 1) (.tup .nil)) (.cmp .Lt (.ix (.nm 1) (.neg (.c (.int (1))))) (.ix (.nm 0) (.c (.int (0))))))) (.nm 1) (.seq (.ix (.nm 0) (.c (.int (1))))) [1]) .nil))) .nil))⟩
def f_check_table : FDef := ⟨1, [], ["table"],
  (.cons (.ife (.not (.val (.call "is_table_of" (.cons (.nm 0) .nil))))
    (.cons .never .nil) .nil) .nil)⟩
def f_is_set_below : FDef := ⟨2, [], ["value", "many"],
  (.cons (.ret (.and (.call "is_set" (.cons (.nm 0) .nil)) (.or (.cmp .Eq (.nm 0) (.tup .nil)) (.cmp .Lt (.ix (.nm 0) (.neg (.c (.int (1))))) (.nm 1))))) .nil)⟩
def f_are_apart : FDef := ⟨1, [], ["rows", "columns", "row", "column"],
  (.cons (.asg 1 false (.comp2 (.nm 3) (.nm 2) (.seq (.nm 0)) (.nm 3) (.seq (.nm 2)) [2, 3] [3]))
  (.cons (.ret (.cmp .Eq (.lenset (.nm 1)) (.bi .len (.cons (.nm 1) .nil)))) .nil))⟩
def f_judge_points : FDef := ⟨2, [], ["table", "value", "points", "rows", "row", "column", "index"],
  (.cons (.ex (.call "check_table" (.cons (.nm 0) .nil)))
  (.cons (.ife (.or (.val (.cmp .In (.tup .nil) (.ix (.nm 0) (.c (.int (1)))))) (.or (.not (.val (.isi (.nm 1) .tuple))) (.val (.cmp .NotEq (.bi .len (.cons (.nm 1) .nil)) (.c (.int (2)))))))
    (.cons (.ret (.c (.bool false))) .nil) .nil)
  (.cons (.asgT (.tp [2, 3]) (.nm 1))
  (.cons (.ife (.or (.not (.val (.call "is_set_below" (.cons (.nm 2) (.cons (.ix (.nm 0) (.c (.int (0)))) .nil))))) (.or (.not (.val (.call "is_set_below" (.cons (.nm 3) (.cons (.bi .len (.cons (.ix (.nm 0) (.c (.int (1)))) .nil)) .nil))))) (.val (.cmp .NotEq (.bi .len (.cons (.nm 2) .nil)) (.bi .len (.cons (.nm 3) .nil))))))
    (.cons (.ret (.c (.bool false))) .nil) .nil)
  (.cons (.ife (.not (.val (.bi .all (.cons (.comp (.bi .any (.cons (.comp (.cmp .In (.nm 5) (.nm 2)) (.nm 5) (.seq (.nm 4)) [5]) .nil)) (.nm 4) (.seq (.ix (.nm 0) (.c (.int (1))))) [4]) .nil))))
    (.cons (.ret (.c (.bool false))) .nil) .nil)
  (.cons (.ret (.call "are_apart" (.cons (.comp (.ix (.ix (.nm 0) (.c (.int (1)))) (.nm 6)) (.nm 6) (.seq (.nm 3)) [6]) .nil))) .nil))))))⟩
def f__law_feed : FDef := ⟨1, [], ["script"],
  (.cons (.ret (.lst (.cons (.bi .list (.cons (.sl01 (.nm 0) (.c (.int (63)))) .nil)) (.cons (.c (.int (0))) (.cons (.c (.int (0))) .nil))))) .nil)⟩
def f__law_drawn : FDef := ⟨2, [0], ["feed", "many", "cells", "at", "cell", "first", "second", "digit"],
  (.cons (.ife (.val (.cmp .Eq (.ix (.nm 0) (.c (.int (2)))) (.c (.int (0)))))
    (.cons (.asg 2 false (.ix (.nm 0) (.c (.int (0)))))
    (.cons (.asg 3 false (.ix (.nm 0) (.c (.int (1)))))
    (.cons (.setix 0 (.c (.int (1))) (.bin .Add (.nm 3) (.c (.int (1)))))
    (.cons (.asg 4 false (.c (.int (0))))
    (.cons (.ife (.val (.cmp .Gt (.bi .len (.cons (.nm 2) .nil)) (.c (.int (0)))))
      (.cons (.asg 4 false (.ix (.nm 2) (.bin .Mod (.bi .int (.cons (.nm 3) .nil)) (.bi .len (.cons (.nm 2) .nil))))) .nil) .nil)
    (.cons (.ife (.or (.val (.cmp .GtE (.nm 3) (.bi .len (.cons (.nm 2) .nil)))) (.val (.cmp .Lt (.nm 4) (.bin .Pow (.c (.int (10))) (.c (.int (18)))))))
      (.cons (.asg 5 false (.bin .Mod (.bi .int (.cons (.bin .Add (.bin .Add (.bin .Add (.bin .Mod (.bi .int (.cons (.nm 4) .nil)) (.c (.int (999979)))) (.bin .Mult (.bin .Mult (.nm 3) (.nm 3)) (.c (.int (307))))) (.bin .Mult (.nm 3) (.c (.int (53))))) (.c (.int (17)))) .nil)) (.c (.int (999979)))))
      (.cons (.asg 6 false (.bin .Mod (.bi .int (.cons (.bin .Add (.bin .Add (.bin .Mult (.bin .Mult (.nm 5) (.nm 5)) (.c (.int (5)))) (.bin .Mult (.nm 5) (.c (.int (11))))) (.nm 3)) .nil)) (.c (.int (2147483629)))))
      (.cons (.ret (.bin .Mod (.bi .int (.cons (.bin .Mod (.bi .int (.cons (.bin .Mult (.nm 6) (.c (.int (69621)))) .nil)) (.c (.int (2147483647)))) .nil)) (.nm 1))) .nil))) .nil)
    (.cons (.setix 0 (.c (.int (2))) (.nm 4)) .nil))))))) .nil)
  (.cons (.asg 7 false (.bin .Mod (.bi .int (.cons (.ix (.nm 0) (.c (.int (2)))) .nil)) (.nm 1)))
  (.cons (.setix 0 (.c (.int (2))) (.bin .FloorDiv (.bi .int (.cons (.ix (.nm 0) (.c (.int (2)))) .nil)) (.nm 1)))
  (.cons (.ret (.nm 7)) .nil))))⟩
def f__law_same : FDef := ⟨2, [], ["found", "due", "at"],
  (.cons (.ife (.val (.isi2 (.nm 1) .tuple .list))
    (.cons (.ife (.or (.val (.cmp .NotEq (.isi (.nm 0) .tuple) (.isi (.nm 1) .tuple))) (.val (.cmp .NotEq (.isi (.nm 0) .list) (.isi (.nm 1) .list))))
      (.cons (.ret (.c (.bool false))) .nil) .nil)
    (.cons (.ret (.and (.cmp .Eq (.bi .len (.cons (.nm 0) .nil)) (.bi .len (.cons (.nm 1) .nil))) (.bi .all (.cons (.comp (.call "_law_same" (.cons (.ix (.nm 0) (.nm 2)) (.cons (.ix (.nm 1) (.nm 2)) .nil))) (.nm 2) (.rng1 (.bi .len (.cons (.nm 1) .nil))) [2]) .nil)))) .nil)) .nil)
  (.cons (.ife (.val (.isN (.nm 1)))
    (.cons (.ret (.isN (.nm 0))) .nil) .nil)
  (.cons (.ife (.val (.isi (.nm 1) .bool))
    (.cons (.ret (.and (.isi (.nm 0) .bool) (.cmp .Eq (.nm 0) (.nm 1)))) .nil) .nil)
  (.cons (.ife (.val (.isi (.nm 1) .int))
    (.cons (.ret (.and (.isi (.nm 0) .int) (.and (.not (.isi (.nm 0) .bool)) (.cmp .Eq (.nm 0) (.nm 1))))) .nil) .nil)
  (.cons (.ret (.and (.isi (.nm 0) .str) (.cmp .Eq (.nm 0) (.nm 1)))) .nil)))))⟩
def f__law_row : FDef := ⟨2, [0], ["feed", "many", "column"],
  (.cons (.ret (.bi .tuple (.cons (.compif (.nm 2) (.nm 2) (.rng1 (.nm 1)) (.val (.cmp .Eq (.call "_law_drawn" (.cons (.nm 0) (.cons (.c (.int (2))) .nil))) (.c (.int (0))))) [2]) .nil))) .nil)⟩
def f__law_is_set : FDef := ⟨2, [], ["value", "many", "own"],
  (.cons (.ife (.or (.not (.val (.isi (.nm 0) .tuple))) (.val (.cmp .NotEq (.compif (.nm 2) (.nm 2) (.seq (.nm 0)) (.or (.not (.val (.isi (.nm 2) .int))) (.val (.isi (.nm 2) .bool))) [2]) (.lst .nil))))
    (.cons (.ret (.c (.bool false))) .nil) .nil)
  (.cons (.ret (.and (.cmp .Eq (.bi .list (.cons (.nm 0) .nil)) (.sortset (.nm 0))) (.cmp .Eq (.compif (.nm 2) (.nm 2) (.seq (.nm 0)) (.not (.val (.chain .LtE .Lt (.c (.int (0))) (.nm 2) (.nm 1)))) [2]) (.lst .nil)))) .nil))⟩
def f__law_is_pair : FDef := ⟨2, [], ["table", "value", "points", "rows", "met", "index", "row", "own"],
  (.cons (.ife (.or (.not (.val (.isi (.nm 1) .tuple))) (.or (.val (.cmp .NotEq (.bi .len (.cons (.nm 1) .nil)) (.c (.int (2))))) (.val (.cmp .In (.tup .nil) (.ix (.nm 0) (.c (.int (1))))))))
    (.cons (.ret (.c (.bool false))) .nil) .nil)
  (.cons (.asgT (.tp [2, 3]) (.nm 1))
  (.cons (.ife (.or (.not (.val (.call "_law_is_set" (.cons (.nm 2) (.cons (.ix (.nm 0) (.c (.int (0)))) .nil))))) (.or (.not (.val (.call "_law_is_set" (.cons (.nm 3) (.cons (.bi .len (.cons (.ix (.nm 0) (.c (.int (1)))) .nil)) .nil))))) (.val (.cmp .NotEq (.bi .len (.cons (.nm 2) .nil)) (.bi .len (.cons (.nm 3) .nil))))))
    (.cons (.ret (.c (.bool false))) .nil) .nil)
  (.cons (.ife (.val (.cmp .NotEq (.compif (.nm 6) (.nm 6) (.seq (.ix (.nm 0) (.c (.int (1))))) (.val (.cmp .Eq (.compif (.nm 7) (.nm 7) (.seq (.nm 2)) (.val (.cmp .In (.nm 7) (.nm 6))) [7]) (.lst .nil))) [6]) (.lst .nil)))
    (.cons (.ret (.c (.bool false))) .nil) .nil)
  (.cons (.asg 4 false (.tup .nil))
  (.cons (.for_ (.nm 5) (.seq (.nm 3))
    (.cons (.asg 4 false (.bin .Add (.nm 4) (.ix (.ix (.nm 0) (.c (.int (1)))) (.nm 5)))) .nil))
  (.cons (.ret (.cmp .Eq (.lenset (.nm 4)) (.bi .len (.cons (.nm 4) .nil)))) .nil)))))))⟩
def f__law_lots : FDef := ⟨1, [], ["many", "found", "at", "lot"],
  (.cons (.asg 1 false (.lst (.cons (.tup .nil) .nil)))
  (.cons (.for_ (.nm 2) (.rng1 (.nm 0))
    (.cons (.asg 1 false (.bin .Add (.nm 1) (.comp (.bin .Add (.nm 3) (.tup (.cons (.nm 2) .nil))) (.nm 3) (.seq (.nm 1)) [3]))) .nil))
  (.cons (.ret (.nm 1)) .nil)))⟩
def f__law_meets : FDef := ⟨2, [], ["table", "lot", "row", "own"],
  (.cons (.ret (.cmp .Eq (.compif (.nm 2) (.nm 2) (.seq (.ix (.nm 0) (.c (.int (1))))) (.val (.cmp .Eq (.compif (.nm 3) (.nm 3) (.seq (.nm 1)) (.val (.cmp .In (.nm 3) (.nm 2))) [3]) (.lst .nil))) [2]) (.lst .nil))) .nil)⟩
def f__law_bent : FDef := ⟨3, [0], ["feed", "value", "many", "points", "rows", "some"],
  (.cons (.asgT (.tp [3, 4]) (.nm 1))
  (.cons (.asg 5 false (.lst (.cons (.tup (.cons (.bin .Add (.nm 3) (.tup (.cons (.nm 2) .nil))) (.cons (.nm 4) .nil))) (.cons (.tup (.cons (.rev (.nm 3)) (.cons (.nm 4) .nil))) (.cons (.tup (.cons (.nm 3) (.cons (.bin .Add (.nm 4) (.sl10 (.nm 4) (.neg (.c (.int (1)))))) .nil))) (.cons (.tup (.cons (.bi .list (.cons (.nm 3) .nil)) (.cons (.nm 4) .nil))) (.cons (.tup (.cons (.nm 3) (.cons (.bi .list (.cons (.nm 4) .nil)) .nil))) .nil)))))))
  (.cons (.asg 5 false (.bin .Add (.nm 5) (.lst (.cons (.tup (.cons (.nm 3) (.cons (.nm 4) (.cons (.tup .nil) .nil)))) (.cons (.tup (.cons (.nm 3) .nil)) (.cons (.c .none) (.cons (.lst (.cons (.nm 3) (.cons (.nm 4) .nil))) (.cons (.tup (.cons (.nm 4) (.cons (.nm 3) .nil))) (.cons (.tup (.cons (.sl10 (.nm 3) (.c (.int (1)))) (.cons (.sl10 (.nm 4) (.c (.int (1)))) .nil))) (.cons (.tup (.cons (.sl10 (.nm 3) (.c (.int (1)))) (.cons (.nm 4) .nil))) .nil))))))))))
  (.cons (.asg 5 false (.bin .Add (.nm 5) (.lst (.cons (.tup (.cons (.nm 3) (.cons (.sl01 (.nm 4) (.neg (.c (.int (1))))) .nil))) (.cons (.tup (.cons (.nm 3) (.cons (.bin .Mult (.tup (.cons (.c (.bool true)) .nil)) (.bi .len (.cons (.nm 4) .nil))) .nil))) (.cons (.tup (.cons (.nm 3) (.cons (.c .none) .nil))) (.cons (.tup (.cons (.c (.str (Str.ofString "0"))) (.cons (.nm 4) .nil))) (.cons (.tup (.cons (.tup .nil) (.cons (.tup .nil) .nil))) (.cons (.tup (.cons (.nm 3) (.cons (.bin .Add (.sl10 (.nm 4) (.c (.int (1)))) (.tup (.cons (.nm 2) .nil))) .nil))) (.cons (.c (.int (5))) .nil))))))))))
  (.cons (.ret (.ix (.nm 5) (.call "_law_drawn" (.cons (.nm 0) (.cons (.c (.int (19))) .nil))))) .nil)))))⟩
def f_law : FDef := ⟨1, [], ["script", "feed", "turn", "many", "rows", "table", "lots", "kinds", "fewest", "some", "lot", "value", "due", "bent",
 "again", "row", "kind"],
  (.cons (.asg 1 true (.call "_law_feed" (.cons (.nm 0) .nil)))
  (.cons (.for_ (.nm 2) (.rng1 (.c (.int (3))))
    (.cons (.asg 3 false (.bin .Add (.c (.int (1))) (.call "_law_drawn" (.cons (.nm 1) (.cons (.c (.int (6))) .nil)))))
    (.cons (.asg 4 false (.comp (.call "_law_row" (.cons (.nm 1) (.cons (.nm 3) .nil))) (.nm 14) (.rng1 (.call "_law_drawn" (.cons (.nm 1) (.cons (.c (.int (7))) .nil)))) [14]))
    (.cons (.asg 5 false (.tup (.cons (.nm 3) (.cons (.bi .tuple (.cons (.comp (.ife (.val (.cmp .NotEq (.nm 15) (.tup .nil))) (.nm 15) (.tup (.cons (.call "_law_drawn" (.cons (.nm 1) (.cons (.nm 3) .nil))) .nil))) (.nm 15) (.seq (.nm 4)) [15]) .nil)) .nil))))
    (.cons (.asgT (.tp [6, 7]) (.tup (.cons (.call "_law_lots" (.cons (.nm 3) .nil)) (.cons (.call "_law_lots" (.cons (.bi .len (.cons (.nm 4) .nil)) .nil)) .nil))))
    (.cons (.asg 8 false (.bi .min (.cons (.compif (.bi .len (.cons (.nm 10) .nil)) (.nm 10) (.seq (.nm 6)) (.val (.call "_law_meets" (.cons (.nm 5) (.cons (.nm 10) .nil)))) [10]) .nil)))
    (.cons (.asg 9 true (.comp (.tup (.cons (.ix (.nm 6) (.call "_law_drawn" (.cons (.nm 1) (.cons (.bi .len (.cons (.nm 6) .nil)) .nil)))) (.cons (.ix (.nm 7) (.call "_law_drawn" (.cons (.nm 1) (.cons (.bi .len (.cons (.nm 7) .nil)) .nil)))) .nil))) (.nm 14) (.rng1 (.c (.int (6)))) [14]))
    (.cons (.asg 9 true (.bin .Add (.nm 9) (.comp (.tup (.cons (.nm 10) (.cons (.nm 16) .nil))) (.tp [10, 16]) (.zip (.nm 6) (.nm 7)) [10, 16])))
    (.cons (.asg 7 false (.compif (.nm 16) (.nm 16) (.seq (.nm 7)) (.val (.cmp .Eq (.bi .len (.cons (.nm 16) .nil)) (.nm 8))) [16]))
    (.cons (.for_ (.nm 10) (.seq (.sl01 (.compif (.nm 10) (.nm 10) (.seq (.nm 6)) (.val (.cmp .Eq (.bi .len (.cons (.nm 10) .nil)) (.nm 8))) [10]) (.c (.int (40)))))
      (.cons (.asg 9 true (.bin .Add (.nm 9) (.sl01 (.compif (.tup (.cons (.nm 10) (.cons (.nm 16) .nil))) (.nm 16) (.seq (.nm 7)) (.val (.call "_law_is_pair" (.cons (.nm 5) (.cons (.tup (.cons (.nm 10) (.cons (.nm 16) .nil))) .nil)))) [16]) (.c (.int (1))))))
      (.cons (.ex (.mut .append 9 (.cons (.tup (.cons (.nm 10) (.cons (.ife (.val (.cmp .NotEq (.nm 7) (.lst .nil))) (.ix (.nm 7) (.c (.int (0)))) (.tup .nil)) .nil))) .nil))) .nil)))
    (.cons (.for_ (.nm 11) (.seq (.nm 9))
      (.cons (.asg 12 false (.call "_law_is_pair" (.cons (.nm 5) (.cons (.nm 11) .nil))))
      (.cons (.ife (.not (.val (.call "_law_same" (.cons (.lst (.cons (.call "judge_points" (.cons (.nm 5) (.cons (.nm 11) .nil))) (.cons (.callk "judge_points" .nil (.cons (.nm 11) (.cons (.nm 5) .nil)) ["value", "table"] [1, 0]) .nil))) (.cons (.lst (.cons (.nm 12) (.cons (.nm 12) .nil))) .nil)))))
        (.cons (.ret (.c (.bool false))) .nil) .nil)
      (.cons (.ife (.and (.val (.nm 12)) (.val (.cmp .NotEq (.bi .len (.cons (.ix (.nm 11) (.c (.int (0)))) .nil)) (.nm 8))))
        (.cons (.ret (.c (.bool false))) .nil) .nil)
      (.cons (.asg 13 false (.call "_law_bent" (.cons (.nm 1) (.cons (.nm 11) (.cons (.nm 3) .nil)))))
      (.cons (.ife (.not (.val (.call "_law_same" (.cons (.call "judge_points" (.cons (.nm 5) (.cons (.nm 13) .nil))) (.cons (.call "_law_is_pair" (.cons (.nm 5) (.cons (.nm 13) .nil))) .nil)))))
        (.cons (.ret (.c (.bool false))) .nil) .nil) .nil))))))
    (.cons (.ife (.or (.val (.cmp .IsNot (.call "judge_points" (.cons (.tup (.cons (.nm 3) (.cons (.bin .Add (.ix (.nm 5) (.c (.int (1)))) (.tup (.cons (.tup .nil) .nil))) .nil))) (.cons (.tup (.cons (.tup (.cons (.c (.int (0))) .nil)) (.cons (.tup (.cons (.c (.int (0))) .nil)) .nil))) .nil))) (.c (.bool false)))) (.val (.cmp .IsNot (.call "judge_points" (.cons (.tup (.cons (.c (.int (0))) (.cons (.tup .nil) .nil))) (.cons (.tup (.cons (.tup .nil) (.cons (.tup .nil) .nil))) .nil))) (.c (.bool true)))))
      (.cons (.ret (.c (.bool false))) .nil) .nil) .nil))))))))))))
  (.cons (.ret (.c (.bool true))) .nil)))⟩
abbrev R0 : PySem.Program := PySem.Challenge.pw_wholebeside_k80_whole_papers_of_points_b
def top (i : Nat) : Stmt := R0.main.body.getD i (.Pass ⟨0, 0, 0, 0⟩)
def kwl : List (String × Nat × List String × List Nat) := [("judge_points", 0, ["value", "table"], [1, 0])]
def fs : List String := ["is_integer", "is_natural", "are_naturals", "is_set", "is_table_of", "check_table", "is_set_below", "are_apart", "judge_points", "_law_feed", "_law_drawn", "_law_same", "_law_row", "_law_is_set", "_law_is_pair", "_law_lots", "_law_meets", "_law_bent", "law"]
def P : Prog := [("is_integer", f_is_integer), ("is_natural", f_is_natural), ("are_naturals", f_are_naturals), ("is_set", f_is_set), ("is_table_of", f_is_table_of), ("check_table", f_check_table), ("is_set_below", f_is_set_below), ("are_apart", f_are_apart), ("judge_points", f_judge_points), ("_law_feed", f__law_feed), ("_law_drawn", f__law_drawn), ("_law_same", f__law_same), ("_law_row", f__law_row), ("_law_is_set", f__law_is_set), ("_law_is_pair", f__law_is_pair), ("_law_lots", f__law_lots), ("_law_meets", f__law_meets), ("_law_bent", f__law_bent), ("law", f_law)]
def d_is_integer : He.DefD := ⟨("is_integer", none), "is_integer", "is_integer", defArgs (top 4), defBody (top 4), defScope (top 4), [], []⟩
def d_is_natural : He.DefD := ⟨("is_natural", none), "is_natural", "is_natural", defArgs (top 5), defBody (top 5), defScope (top 5), [], []⟩
def d_are_naturals : He.DefD := ⟨("are_naturals", none), "are_naturals", "are_naturals", defArgs (top 6), defBody (top 6), defScope (top 6), [], []⟩
def d_is_set : He.DefD := ⟨("is_set", none), "is_set", "is_set", defArgs (top 7), defBody (top 7), defScope (top 7), [], []⟩
def d_is_table_of : He.DefD := ⟨("is_table_of", none), "is_table_of", "is_table_of", defArgs (top 9), defBody (top 9), defScope (top 9), [], []⟩
def d_check_table : He.DefD := ⟨("check_table", none), "check_table", "check_table", defArgs (top 10), defBody (top 10), defScope (top 10), [], []⟩
def d_is_set_below : He.DefD := ⟨("is_set_below", none), "is_set_below", "is_set_below", defArgs (top 12), defBody (top 12), defScope (top 12), [], []⟩
def d_are_apart : He.DefD := ⟨("are_apart", none), "are_apart", "are_apart", defArgs (top 13), defBody (top 13), defScope (top 13), [], []⟩
def d_judge_points : He.DefD := ⟨("judge_points", none), "judge_points", "judge_points", defArgs (top 15), defBody (top 15), defScope (top 15), [], []⟩
def d__law_feed : He.DefD := ⟨("_law_feed", none), "_law_feed", "_law_feed", defArgs (top 17), defBody (top 17), defScope (top 17), [], []⟩
def d__law_drawn : He.DefD := ⟨("_law_drawn", none), "_law_drawn", "_law_drawn", defArgs (top 18), defBody (top 18), defScope (top 18), [], []⟩
def d__law_same : He.DefD := ⟨("_law_same", none), "_law_same", "_law_same", defArgs (top 19), defBody (top 19), defScope (top 19), [], []⟩
def d__law_row : He.DefD := ⟨("_law_row", none), "_law_row", "_law_row", defArgs (top 20), defBody (top 20), defScope (top 20), [], []⟩
def d__law_is_set : He.DefD := ⟨("_law_is_set", none), "_law_is_set", "_law_is_set", defArgs (top 21), defBody (top 21), defScope (top 21), [], []⟩
def d__law_is_pair : He.DefD := ⟨("_law_is_pair", none), "_law_is_pair", "_law_is_pair", defArgs (top 22), defBody (top 22), defScope (top 22), [], []⟩
def d__law_lots : He.DefD := ⟨("_law_lots", none), "_law_lots", "_law_lots", defArgs (top 23), defBody (top 23), defScope (top 23), [], []⟩
def d__law_meets : He.DefD := ⟨("_law_meets", none), "_law_meets", "_law_meets", defArgs (top 24), defBody (top 24), defScope (top 24), [], []⟩
def d__law_bent : He.DefD := ⟨("_law_bent", none), "_law_bent", "_law_bent", defArgs (top 25), defBody (top 25), defScope (top 25), [], []⟩
def d_law : He.DefD := ⟨("law", none), "law", "law", defArgs (top 26), defBody (top 26), defScope (top 26), [], []⟩
def fn : List He.DefD := [d_is_integer, d_is_natural, d_are_naturals, d_is_set, d_is_table_of, d_check_table, d_is_set_below, d_are_apart, d_judge_points, d__law_feed, d__law_drawn, d__law_same, d__law_row, d__law_is_set, d__law_is_pair, d__law_lots, d__law_meets, d__law_bent, d_law]
def frees : List He.Fa := freeNames.map .free
def fa : List He.Fa := [.glo "is_integer", .glo "is_natural", .glo "are_naturals", .glo "is_set", .glo "is_table_of", .glo "check_table", .glo "is_set_below", .glo "are_apart", .glo "judge_points", .glo "_law_feed", .glo "_law_drawn", .glo "_law_same", .glo "_law_row", .glo "_law_is_set", .glo "_law_is_pair", .glo "_law_lots", .glo "_law_meets", .glo "_law_bent", .glo "law"] ++ frees
section
variable {K : PySem.W.Frag} {h : Heap} {mg : Str → Option Value}
theorem i_is_integer (X : K.In h) (G : h.Ns mainGlobals mg) (c : He.SaysD fa fn K) : ∃ a fdd, FnI kwl fs K mg "is_integer" f_is_integer a fdd ["value"] ∧ FunD K d_is_integer.name d_is_integer.qual d_is_integer.params d_is_integer.body d_is_integer.scope [] [] a fdd := by
  obtain ⟨fdd, F⟩ := c.def_ 0 (d := d_is_integer) rfl
  refine ⟨_, fdd, ⟨⟨_, _, _, _, _, ⟨[Str.ofString "value"], []⟩, 60, 60, F, by decide +kernel, by decide +kernel⟩, rfl, He.glo_ok X G (c.fact 0 (f := .glo "is_integer") rfl), F.bindsN fun _ _ _ _ _ _ us hl => match us, hl with | [_], _ => rfl, ?_⟩, F⟩
  intro q hq
  have e : kwsOf kwl "is_integer" = [] := by decide +kernel
  rw [e] at hq
  exact absurd hq (by simp)
theorem i_is_natural (X : K.In h) (G : h.Ns mainGlobals mg) (c : He.SaysD fa fn K) : ∃ a fdd, FnI kwl fs K mg "is_natural" f_is_natural a fdd ["value"] ∧ FunD K d_is_natural.name d_is_natural.qual d_is_natural.params d_is_natural.body d_is_natural.scope [] [] a fdd := by
  obtain ⟨fdd, F⟩ := c.def_ 1 (d := d_is_natural) rfl
  refine ⟨_, fdd, ⟨⟨_, _, _, _, _, ⟨[Str.ofString "value"], []⟩, 60, 60, F, by decide +kernel, by decide +kernel⟩, rfl, He.glo_ok X G (c.fact 1 (f := .glo "is_natural") rfl), F.bindsN fun _ _ _ _ _ _ us hl => match us, hl with | [_], _ => rfl, ?_⟩, F⟩
  intro q hq
  have e : kwsOf kwl "is_natural" = [] := by decide +kernel
  rw [e] at hq
  exact absurd hq (by simp)
theorem i_are_naturals (X : K.In h) (G : h.Ns mainGlobals mg) (c : He.SaysD fa fn K) : ∃ a fdd, FnI kwl fs K mg "are_naturals" f_are_naturals a fdd ["value"] ∧ FunD K d_are_naturals.name d_are_naturals.qual d_are_naturals.params d_are_naturals.body d_are_naturals.scope [] [] a fdd := by
  obtain ⟨fdd, F⟩ := c.def_ 2 (d := d_are_naturals) rfl
  refine ⟨_, fdd, ⟨⟨_, _, _, _, _, ⟨[Str.ofString "value", Str.ofString "own"], []⟩, 60, 60, F, by decide +kernel, by decide +kernel⟩, rfl, He.glo_ok X G (c.fact 2 (f := .glo "are_naturals") rfl), F.bindsN fun _ _ _ _ _ _ us hl => match us, hl with | [_], _ => rfl, ?_⟩, F⟩
  intro q hq
  have e : kwsOf kwl "are_naturals" = [] := by decide +kernel
  rw [e] at hq
  exact absurd hq (by simp)
theorem i_is_set (X : K.In h) (G : h.Ns mainGlobals mg) (c : He.SaysD fa fn K) : ∃ a fdd, FnI kwl fs K mg "is_set" f_is_set a fdd ["value"] ∧ FunD K d_is_set.name d_is_set.qual d_is_set.params d_is_set.body d_is_set.scope [] [] a fdd := by
  obtain ⟨fdd, F⟩ := c.def_ 3 (d := d_is_set) rfl
  refine ⟨_, fdd, ⟨⟨_, _, _, _, _, ⟨[Str.ofString "value", Str.ofString "own", Str.ofString "more"], []⟩, 60, 60, F, by decide +kernel, by decide +kernel⟩, rfl, He.glo_ok X G (c.fact 3 (f := .glo "is_set") rfl), F.bindsN fun _ _ _ _ _ _ us hl => match us, hl with | [_], _ => rfl, ?_⟩, F⟩
  intro q hq
  have e : kwsOf kwl "is_set" = [] := by decide +kernel
  rw [e] at hq
  exact absurd hq (by simp)
theorem i_is_table_of (X : K.In h) (G : h.Ns mainGlobals mg) (c : He.SaysD fa fn K) : ∃ a fdd, FnI kwl fs K mg "is_table_of" f_is_table_of a fdd ["value"] ∧ FunD K d_is_table_of.name d_is_table_of.qual d_is_table_of.params d_is_table_of.body d_is_table_of.scope [] [] a fdd := by
  obtain ⟨fdd, F⟩ := c.def_ 4 (d := d_is_table_of) rfl
  refine ⟨_, fdd, ⟨⟨_, _, _, _, _, ⟨[Str.ofString "value", Str.ofString "row"], []⟩, 60, 60, F, by decide +kernel, by decide +kernel⟩, rfl, He.glo_ok X G (c.fact 4 (f := .glo "is_table_of") rfl), F.bindsN fun _ _ _ _ _ _ us hl => match us, hl with | [_], _ => rfl, ?_⟩, F⟩
  intro q hq
  have e : kwsOf kwl "is_table_of" = [] := by decide +kernel
  rw [e] at hq
  exact absurd hq (by simp)
theorem i_check_table (X : K.In h) (G : h.Ns mainGlobals mg) (c : He.SaysD fa fn K) : ∃ a fdd, FnI kwl fs K mg "check_table" f_check_table a fdd ["table"] ∧ FunD K d_check_table.name d_check_table.qual d_check_table.params d_check_table.body d_check_table.scope [] [] a fdd := by
  obtain ⟨fdd, F⟩ := c.def_ 5 (d := d_check_table) rfl
  refine ⟨_, fdd, ⟨⟨_, _, _, _, _, ⟨[Str.ofString "table"], []⟩, 60, 60, F, by decide +kernel, by decide +kernel⟩, rfl, He.glo_ok X G (c.fact 5 (f := .glo "check_table") rfl), F.bindsN fun _ _ _ _ _ _ us hl => match us, hl with | [_], _ => rfl, ?_⟩, F⟩
  intro q hq
  have e : kwsOf kwl "check_table" = [] := by decide +kernel
  rw [e] at hq
  exact absurd hq (by simp)
theorem i_is_set_below (X : K.In h) (G : h.Ns mainGlobals mg) (c : He.SaysD fa fn K) : ∃ a fdd, FnI kwl fs K mg "is_set_below" f_is_set_below a fdd ["value", "many"] ∧ FunD K d_is_set_below.name d_is_set_below.qual d_is_set_below.params d_is_set_below.body d_is_set_below.scope [] [] a fdd := by
  obtain ⟨fdd, F⟩ := c.def_ 6 (d := d_is_set_below) rfl
  refine ⟨_, fdd, ⟨⟨_, _, _, _, _, ⟨[Str.ofString "value", Str.ofString "many"], []⟩, 60, 60, F, by decide +kernel, by decide +kernel⟩, rfl, He.glo_ok X G (c.fact 6 (f := .glo "is_set_below") rfl), F.bindsN fun _ _ _ _ _ _ us hl => match us, hl with | [_, _], _ => rfl, ?_⟩, F⟩
  intro q hq
  have e : kwsOf kwl "is_set_below" = [] := by decide +kernel
  rw [e] at hq
  exact absurd hq (by simp)
theorem i_are_apart (X : K.In h) (G : h.Ns mainGlobals mg) (c : He.SaysD fa fn K) : ∃ a fdd, FnI kwl fs K mg "are_apart" f_are_apart a fdd ["rows"] ∧ FunD K d_are_apart.name d_are_apart.qual d_are_apart.params d_are_apart.body d_are_apart.scope [] [] a fdd := by
  obtain ⟨fdd, F⟩ := c.def_ 7 (d := d_are_apart) rfl
  refine ⟨_, fdd, ⟨⟨_, _, _, _, _, ⟨[Str.ofString "rows", Str.ofString "columns", Str.ofString "row", Str.ofString "column"], []⟩, 60, 60, F, by decide +kernel, by decide +kernel⟩, rfl, He.glo_ok X G (c.fact 7 (f := .glo "are_apart") rfl), F.bindsN fun _ _ _ _ _ _ us hl => match us, hl with | [_], _ => rfl, ?_⟩, F⟩
  intro q hq
  have e : kwsOf kwl "are_apart" = [] := by decide +kernel
  rw [e] at hq
  exact absurd hq (by simp)
theorem i_judge_points (X : K.In h) (G : h.Ns mainGlobals mg) (c : He.SaysD fa fn K) : ∃ a fdd, FnI kwl fs K mg "judge_points" f_judge_points a fdd ["table", "value"] ∧ FunD K d_judge_points.name d_judge_points.qual d_judge_points.params d_judge_points.body d_judge_points.scope [] [] a fdd := by
  obtain ⟨fdd, F⟩ := c.def_ 8 (d := d_judge_points) rfl
  refine ⟨_, fdd, ⟨⟨_, _, _, _, _, ⟨[Str.ofString "table", Str.ofString "value", Str.ofString "points", Str.ofString "rows", Str.ofString "row", Str.ofString "column", Str.ofString "index"], []⟩, 60, 60, F, by decide +kernel, by decide +kernel⟩, rfl, He.glo_ok X G (c.fact 8 (f := .glo "judge_points") rfl), F.bindsN fun _ _ _ _ _ _ us hl => match us, hl with | [_, _], _ => rfl, ?_⟩, F⟩
  intro q hq
  have e : kwsOf kwl "judge_points" = [(0, ["value", "table"], [1, 0])] := by decide +kernel
  rw [e] at hq
  rcases List.mem_cons.mp hq with rfl | hq
  · exact kb_of F 0 [Str.ofString "value", Str.ofString "table"] [1, 0] fun _ _ _ _ _ _ us ws h1 h2 => match us, h1, ws, h2 with | [], _, [_, _], _ => rfl
  exact absurd hq (by simp)
theorem i__law_feed (X : K.In h) (G : h.Ns mainGlobals mg) (c : He.SaysD fa fn K) : ∃ a fdd, FnI kwl fs K mg "_law_feed" f__law_feed a fdd ["script"] ∧ FunD K d__law_feed.name d__law_feed.qual d__law_feed.params d__law_feed.body d__law_feed.scope [] [] a fdd := by
  obtain ⟨fdd, F⟩ := c.def_ 9 (d := d__law_feed) rfl
  refine ⟨_, fdd, ⟨⟨_, _, _, _, _, ⟨[Str.ofString "script"], []⟩, 60, 60, F, by decide +kernel, by decide +kernel⟩, rfl, He.glo_ok X G (c.fact 9 (f := .glo "_law_feed") rfl), F.bindsN fun _ _ _ _ _ _ us hl => match us, hl with | [_], _ => rfl, ?_⟩, F⟩
  intro q hq
  have e : kwsOf kwl "_law_feed" = [] := by decide +kernel
  rw [e] at hq
  exact absurd hq (by simp)
theorem i__law_drawn (X : K.In h) (G : h.Ns mainGlobals mg) (c : He.SaysD fa fn K) : ∃ a fdd, FnI kwl fs K mg "_law_drawn" f__law_drawn a fdd ["feed", "many"] ∧ FunD K d__law_drawn.name d__law_drawn.qual d__law_drawn.params d__law_drawn.body d__law_drawn.scope [] [] a fdd := by
  obtain ⟨fdd, F⟩ := c.def_ 10 (d := d__law_drawn) rfl
  refine ⟨_, fdd, ⟨⟨_, _, _, _, _, ⟨[Str.ofString "feed", Str.ofString "many", Str.ofString "cells", Str.ofString "at", Str.ofString "cell", Str.ofString "first", Str.ofString "second", Str.ofString "digit"], []⟩, 60, 60, F, by decide +kernel, by decide +kernel⟩, rfl, He.glo_ok X G (c.fact 10 (f := .glo "_law_drawn") rfl), F.bindsN fun _ _ _ _ _ _ us hl => match us, hl with | [_, _], _ => rfl, ?_⟩, F⟩
  intro q hq
  have e : kwsOf kwl "_law_drawn" = [] := by decide +kernel
  rw [e] at hq
  exact absurd hq (by simp)
theorem i__law_same (X : K.In h) (G : h.Ns mainGlobals mg) (c : He.SaysD fa fn K) : ∃ a fdd, FnI kwl fs K mg "_law_same" f__law_same a fdd ["found", "due"] ∧ FunD K d__law_same.name d__law_same.qual d__law_same.params d__law_same.body d__law_same.scope [] [] a fdd := by
  obtain ⟨fdd, F⟩ := c.def_ 11 (d := d__law_same) rfl
  refine ⟨_, fdd, ⟨⟨_, _, _, _, _, ⟨[Str.ofString "found", Str.ofString "due", Str.ofString "at"], []⟩, 60, 60, F, by decide +kernel, by decide +kernel⟩, rfl, He.glo_ok X G (c.fact 11 (f := .glo "_law_same") rfl), F.bindsN fun _ _ _ _ _ _ us hl => match us, hl with | [_, _], _ => rfl, ?_⟩, F⟩
  intro q hq
  have e : kwsOf kwl "_law_same" = [] := by decide +kernel
  rw [e] at hq
  exact absurd hq (by simp)
theorem i__law_row (X : K.In h) (G : h.Ns mainGlobals mg) (c : He.SaysD fa fn K) : ∃ a fdd, FnI kwl fs K mg "_law_row" f__law_row a fdd ["feed", "many"] ∧ FunD K d__law_row.name d__law_row.qual d__law_row.params d__law_row.body d__law_row.scope [] [] a fdd := by
  obtain ⟨fdd, F⟩ := c.def_ 12 (d := d__law_row) rfl
  refine ⟨_, fdd, ⟨⟨_, _, _, _, _, ⟨[Str.ofString "feed", Str.ofString "many", Str.ofString "column"], []⟩, 60, 60, F, by decide +kernel, by decide +kernel⟩, rfl, He.glo_ok X G (c.fact 12 (f := .glo "_law_row") rfl), F.bindsN fun _ _ _ _ _ _ us hl => match us, hl with | [_, _], _ => rfl, ?_⟩, F⟩
  intro q hq
  have e : kwsOf kwl "_law_row" = [] := by decide +kernel
  rw [e] at hq
  exact absurd hq (by simp)
theorem i__law_is_set (X : K.In h) (G : h.Ns mainGlobals mg) (c : He.SaysD fa fn K) : ∃ a fdd, FnI kwl fs K mg "_law_is_set" f__law_is_set a fdd ["value", "many"] ∧ FunD K d__law_is_set.name d__law_is_set.qual d__law_is_set.params d__law_is_set.body d__law_is_set.scope [] [] a fdd := by
  obtain ⟨fdd, F⟩ := c.def_ 13 (d := d__law_is_set) rfl
  refine ⟨_, fdd, ⟨⟨_, _, _, _, _, ⟨[Str.ofString "value", Str.ofString "many", Str.ofString "own"], []⟩, 60, 60, F, by decide +kernel, by decide +kernel⟩, rfl, He.glo_ok X G (c.fact 13 (f := .glo "_law_is_set") rfl), F.bindsN fun _ _ _ _ _ _ us hl => match us, hl with | [_, _], _ => rfl, ?_⟩, F⟩
  intro q hq
  have e : kwsOf kwl "_law_is_set" = [] := by decide +kernel
  rw [e] at hq
  exact absurd hq (by simp)
theorem i__law_is_pair (X : K.In h) (G : h.Ns mainGlobals mg) (c : He.SaysD fa fn K) : ∃ a fdd, FnI kwl fs K mg "_law_is_pair" f__law_is_pair a fdd ["table", "value"] ∧ FunD K d__law_is_pair.name d__law_is_pair.qual d__law_is_pair.params d__law_is_pair.body d__law_is_pair.scope [] [] a fdd := by
  obtain ⟨fdd, F⟩ := c.def_ 14 (d := d__law_is_pair) rfl
  refine ⟨_, fdd, ⟨⟨_, _, _, _, _, ⟨[Str.ofString "table", Str.ofString "value", Str.ofString "points", Str.ofString "rows", Str.ofString "met", Str.ofString "index", Str.ofString "row", Str.ofString "own"], []⟩, 60, 60, F, by decide +kernel, by decide +kernel⟩, rfl, He.glo_ok X G (c.fact 14 (f := .glo "_law_is_pair") rfl), F.bindsN fun _ _ _ _ _ _ us hl => match us, hl with | [_, _], _ => rfl, ?_⟩, F⟩
  intro q hq
  have e : kwsOf kwl "_law_is_pair" = [] := by decide +kernel
  rw [e] at hq
  exact absurd hq (by simp)
theorem i__law_lots (X : K.In h) (G : h.Ns mainGlobals mg) (c : He.SaysD fa fn K) : ∃ a fdd, FnI kwl fs K mg "_law_lots" f__law_lots a fdd ["many"] ∧ FunD K d__law_lots.name d__law_lots.qual d__law_lots.params d__law_lots.body d__law_lots.scope [] [] a fdd := by
  obtain ⟨fdd, F⟩ := c.def_ 15 (d := d__law_lots) rfl
  refine ⟨_, fdd, ⟨⟨_, _, _, _, _, ⟨[Str.ofString "many", Str.ofString "found", Str.ofString "at", Str.ofString "lot"], []⟩, 60, 60, F, by decide +kernel, by decide +kernel⟩, rfl, He.glo_ok X G (c.fact 15 (f := .glo "_law_lots") rfl), F.bindsN fun _ _ _ _ _ _ us hl => match us, hl with | [_], _ => rfl, ?_⟩, F⟩
  intro q hq
  have e : kwsOf kwl "_law_lots" = [] := by decide +kernel
  rw [e] at hq
  exact absurd hq (by simp)
theorem i__law_meets (X : K.In h) (G : h.Ns mainGlobals mg) (c : He.SaysD fa fn K) : ∃ a fdd, FnI kwl fs K mg "_law_meets" f__law_meets a fdd ["table", "lot"] ∧ FunD K d__law_meets.name d__law_meets.qual d__law_meets.params d__law_meets.body d__law_meets.scope [] [] a fdd := by
  obtain ⟨fdd, F⟩ := c.def_ 16 (d := d__law_meets) rfl
  refine ⟨_, fdd, ⟨⟨_, _, _, _, _, ⟨[Str.ofString "table", Str.ofString "lot", Str.ofString "row", Str.ofString "own"], []⟩, 60, 60, F, by decide +kernel, by decide +kernel⟩, rfl, He.glo_ok X G (c.fact 16 (f := .glo "_law_meets") rfl), F.bindsN fun _ _ _ _ _ _ us hl => match us, hl with | [_, _], _ => rfl, ?_⟩, F⟩
  intro q hq
  have e : kwsOf kwl "_law_meets" = [] := by decide +kernel
  rw [e] at hq
  exact absurd hq (by simp)
theorem i__law_bent (X : K.In h) (G : h.Ns mainGlobals mg) (c : He.SaysD fa fn K) : ∃ a fdd, FnI kwl fs K mg "_law_bent" f__law_bent a fdd ["feed", "value", "many"] ∧ FunD K d__law_bent.name d__law_bent.qual d__law_bent.params d__law_bent.body d__law_bent.scope [] [] a fdd := by
  obtain ⟨fdd, F⟩ := c.def_ 17 (d := d__law_bent) rfl
  refine ⟨_, fdd, ⟨⟨_, _, _, _, _, ⟨[Str.ofString "feed", Str.ofString "value", Str.ofString "many", Str.ofString "points", Str.ofString "rows", Str.ofString "some"], []⟩, 60, 60, F, by decide +kernel, by decide +kernel⟩, rfl, He.glo_ok X G (c.fact 17 (f := .glo "_law_bent") rfl), F.bindsN fun _ _ _ _ _ _ us hl => match us, hl with | [_, _, _], _ => rfl, ?_⟩, F⟩
  intro q hq
  have e : kwsOf kwl "_law_bent" = [] := by decide +kernel
  rw [e] at hq
  exact absurd hq (by simp)
theorem i_law (X : K.In h) (G : h.Ns mainGlobals mg) (c : He.SaysD fa fn K) : ∃ a fdd, FnI kwl fs K mg "law" f_law a fdd ["script"] ∧ FunD K d_law.name d_law.qual d_law.params d_law.body d_law.scope [] [] a fdd := by
  obtain ⟨fdd, F⟩ := c.def_ 18 (d := d_law) rfl
  refine ⟨_, fdd, ⟨⟨_, _, _, _, _, ⟨[Str.ofString "script", Str.ofString "feed", Str.ofString "turn", Str.ofString "many", Str.ofString "rows", Str.ofString "table", Str.ofString "lots", Str.ofString "kinds", Str.ofString "fewest", Str.ofString "some", Str.ofString "lot", Str.ofString "value", Str.ofString "due", Str.ofString "bent", Str.ofString "again", Str.ofString "row", Str.ofString "kind"], [1, 9]⟩, 60, 60, F, by decide +kernel, by decide +kernel⟩, rfl, He.glo_ok X G (c.fact 18 (f := .glo "law") rfl), F.bindsN fun _ _ _ _ _ _ us hl => match us, hl with | [_], _ => rfl, ?_⟩, F⟩
  intro q hq
  have e : kwsOf kwl "law" = [] := by decide +kernel
  rw [e] at hq
  exact absurd hq (by simp)
theorem all_i (X : K.In h) (G : h.Ns mainGlobals mg) (c : He.SaysD fa fn K) : ∀ f fd, P.lookup f = some fd → FnInfo kwl fs K mg f fd := by
  intro f fd hf
  have hm := prog_mem hf
  simp only [P, List.mem_cons, Prod.mk.injEq, List.not_mem_nil, or_false] at hm
  rcases hm with ⟨rfl, rfl⟩ | ⟨rfl, rfl⟩ | ⟨rfl, rfl⟩ | ⟨rfl, rfl⟩ | ⟨rfl, rfl⟩ | ⟨rfl, rfl⟩ | ⟨rfl, rfl⟩ | ⟨rfl, rfl⟩ | ⟨rfl, rfl⟩ | ⟨rfl, rfl⟩ | ⟨rfl, rfl⟩ | ⟨rfl, rfl⟩ | ⟨rfl, rfl⟩ | ⟨rfl, rfl⟩ | ⟨rfl, rfl⟩ | ⟨rfl, rfl⟩ | ⟨rfl, rfl⟩ | ⟨rfl, rfl⟩ | ⟨rfl, rfl⟩
  · obtain ⟨a, fdd, I, _⟩ := i_is_integer X G c; exact ⟨a, fdd, _, I⟩
  · obtain ⟨a, fdd, I, _⟩ := i_is_natural X G c; exact ⟨a, fdd, _, I⟩
  · obtain ⟨a, fdd, I, _⟩ := i_are_naturals X G c; exact ⟨a, fdd, _, I⟩
  · obtain ⟨a, fdd, I, _⟩ := i_is_set X G c; exact ⟨a, fdd, _, I⟩
  · obtain ⟨a, fdd, I, _⟩ := i_is_table_of X G c; exact ⟨a, fdd, _, I⟩
  · obtain ⟨a, fdd, I, _⟩ := i_check_table X G c; exact ⟨a, fdd, _, I⟩
  · obtain ⟨a, fdd, I, _⟩ := i_is_set_below X G c; exact ⟨a, fdd, _, I⟩
  · obtain ⟨a, fdd, I, _⟩ := i_are_apart X G c; exact ⟨a, fdd, _, I⟩
  · obtain ⟨a, fdd, I, _⟩ := i_judge_points X G c; exact ⟨a, fdd, _, I⟩
  · obtain ⟨a, fdd, I, _⟩ := i__law_feed X G c; exact ⟨a, fdd, _, I⟩
  · obtain ⟨a, fdd, I, _⟩ := i__law_drawn X G c; exact ⟨a, fdd, _, I⟩
  · obtain ⟨a, fdd, I, _⟩ := i__law_same X G c; exact ⟨a, fdd, _, I⟩
  · obtain ⟨a, fdd, I, _⟩ := i__law_row X G c; exact ⟨a, fdd, _, I⟩
  · obtain ⟨a, fdd, I, _⟩ := i__law_is_set X G c; exact ⟨a, fdd, _, I⟩
  · obtain ⟨a, fdd, I, _⟩ := i__law_is_pair X G c; exact ⟨a, fdd, _, I⟩
  · obtain ⟨a, fdd, I, _⟩ := i__law_lots X G c; exact ⟨a, fdd, _, I⟩
  · obtain ⟨a, fdd, I, _⟩ := i__law_meets X G c; exact ⟨a, fdd, _, I⟩
  · obtain ⟨a, fdd, I, _⟩ := i__law_bent X G c; exact ⟨a, fdd, _, I⟩
  · obtain ⟨a, fdd, I, _⟩ := i_law X G c; exact ⟨a, fdd, _, I⟩
theorem free_i (X : K.In h) (G : h.Ns mainGlobals mg) (c : He.SaysD fa fn K) : ∀ x ∈ freeNames, mg x = none := fun x hx =>
  He.free_ok X G (c.facts (f := .free x) (List.mem_append_right _ (List.mem_map.mpr ⟨x, hx, rfl⟩)))
theorem fs_i : ∀ f ∈ fs, ∃ fd, P.lookup f = some fd := by
  intro f hf
  have h : fs.all (fun f => (P.lookup f).isSome) = true := by decide +kernel
  exact Option.isSome_iff_exists.mp (List.all_eq_true.mp h f hf)
end
end PX
namespace PX
open PySem PySem.Spec PyProof.Rows L2
theorem call_at {f : String} {fd : FDef} (h : P.lookup f = some fd) (n : Nat) (as : List Arg) : callN P (n + 1) f as = runF (callN P n) (lentIn P) fd as := by
  show (match P.lookup f with | none => (Res.bad : Res Ret) | some fd => runF (callN P n) (lentIn P) fd as) = _
  rw [h]
theorem lent_at {f : String} {fd : FDef} (h : P.lookup f = some fd) : lentIn P f = some fd.lent := by
  unfold lentIn
  rw [h]
  rfl
theorem ev_ii (a b : Int) : PyData.eqv (.int a) (.int b) = (a == b) := by simp [PyData.eqv]
theorem ev_bb (a b : Bool) : PyData.eqv (.bool a) (.bool b) = (a == b) := by simp [PyData.eqv]
theorem ev_ss (a b : Str) : PyData.eqv (.str a) (.str b) = (a == b) := by simp [PyData.eqv]
theorem ev_tt (a b : List PyData) : PyData.eqv (.tuple a) (.tuple b) = PyData.eqvAll a b := by simp [PyData.eqv]
theorem ev_ll (a b : List PyData) : PyData.eqv (.list a) (.list b) = PyData.eqvAll a b := by simp [PyData.eqv]

theorem io_fz (d : D) : isIo (.fz d) = false := rfl
theorem io_un : isIo .un = false := rfl
theorem io_ow (d : List D) : isIo (.ow d) = false := rfl
theorem io_io (d : List D) : isIo (.io d) = true := rfl
theorem at0 {a : D} {xs : List D} : atI (a :: xs) 0 = some a := by
  have := atI_nat (xs := a :: xs) (k := 0) (by simp [opd, twoD, oneD, settle, look, slotD, alias1, aliasL, lookL, asInt, asBool, fits, sizeLine, binV, cmpV, truthD, slV, biV, isTy, runF, startE, argsFit, lentBack, handBack, store_if, storeN_if, storeV, change, isOwn, io_fz, io_un, io_ow, io_io, ixL, augI, augV, callV, handOver, lentAt, shownAt, putBack, Res.need, slot, immV, isNoneD, negV, SeqAt.shaped, ev_ii, ev_bb, ev_ss, ev_tt, ev_ll, PyData.eqvAll, PyData.canLay0, PyData.canLayAll0, PyData.depth, PyData.depthAll])
  exact this
theorem at1 {a b : D} {xs : List D} : atI (a :: b :: xs) 1 = some b := by
  have := atI_nat (xs := a :: b :: xs) (k := 1) (by simp [opd, twoD, oneD, settle, look, slotD, alias1, aliasL, lookL, asInt, asBool, fits, sizeLine, binV, cmpV, truthD, slV, biV, isTy, runF, startE, argsFit, lentBack, handBack, store_if, storeN_if, storeV, change, isOwn, io_fz, io_un, io_ow, io_io, ixL, augI, augV, callV, handOver, lentAt, shownAt, putBack, Res.need, slot, immV, isNoneD, negV, SeqAt.shaped, ev_ii, ev_bb, ev_ss, ev_tt, ev_ll, PyData.eqvAll, PyData.canLay0, PyData.canLayAll0, PyData.depth, PyData.depthAll])
  exact this
theorem at2 {a b c : D} {xs : List D} : atI (a :: b :: c :: xs) 2 = some c := by
  have := atI_nat (xs := a :: b :: c :: xs) (k := 2) (by simp [opd, twoD, oneD, settle, look, slotD, alias1, aliasL, lookL, asInt, asBool, fits, sizeLine, binV, cmpV, truthD, slV, biV, isTy, runF, startE, argsFit, lentBack, handBack, store_if, storeN_if, storeV, change, isOwn, io_fz, io_un, io_ow, io_io, ixL, augI, augV, callV, handOver, lentAt, shownAt, putBack, Res.need, slot, immV, isNoneD, negV, SeqAt.shaped, ev_ii, ev_bb, ev_ss, ev_tt, ev_ll, PyData.eqvAll, PyData.canLay0, PyData.canLayAll0, PyData.depth, PyData.depthAll])
  exact this
theorem at3 {a b c d : D} {xs : List D} : atI (a :: b :: c :: d :: xs) 3 = some d := by
  have := atI_nat (xs := a :: b :: c :: d :: xs) (k := 3) (by simp [opd, twoD, oneD, settle, look, slotD, alias1, aliasL, lookL, asInt, asBool, fits, sizeLine, binV, cmpV, truthD, slV, biV, isTy, runF, startE, argsFit, lentBack, handBack, store_if, storeN_if, storeV, change, isOwn, io_fz, io_un, io_ow, io_io, ixL, augI, augV, callV, handOver, lentAt, shownAt, putBack, Res.need, slot, immV, isNoneD, negV, SeqAt.shaped, ev_ii, ev_bb, ev_ss, ev_tt, ev_ll, PyData.eqvAll, PyData.canLay0, PyData.canLayAll0, PyData.depth, PyData.depthAll])
  exact this
theorem ix_of {xs : List D} {i : Int} {d : D} (h : atI xs i = some d) : ixV (.list xs) (.int i) = .ok (.d d) := by
  show (match atI xs i with | some v => (.ok (.d v) : Res Val) | none => .bad) = _
  rw [h]
theorem set0 {a d : D} {xs : List D} : setAt 0 d (a :: xs) = some (d :: xs) := by
  unfold setAt ixN
  rw [if_pos (by omega), if_pos (by simp only [List.length_cons]; omega)]
  rfl
theorem set1 {a b d : D} {xs : List D} : setAt 1 d (a :: b :: xs) = some (a :: d :: xs) := by
  unfold setAt ixN
  rw [if_pos (by omega), if_pos (by simp only [List.length_cons]; omega)]
  rfl
theorem set2 {a b c d : D} {xs : List D} : setAt 2 d (a :: b :: c :: xs) = some (a :: b :: d :: xs) := by
  unfold setAt ixN
  rw [if_pos (by omega), if_pos (by simp only [List.length_cons]; omega)]
  rfl
theorem set3 {a b c e d : D} {xs : List D} : setAt 3 d (a :: b :: c :: e :: xs) = some (a :: b :: c :: d :: xs) := by
  unfold setAt ixN
  rw [if_pos (by omega), if_pos (by simp only [List.length_cons]; omega)]
  rfl
theorem l_is_integer : lentIn P "is_integer" = some [] := rfl
theorem l_is_natural : lentIn P "is_natural" = some [] := rfl
theorem l_are_naturals : lentIn P "are_naturals" = some [] := rfl
theorem l_is_set : lentIn P "is_set" = some [] := rfl
theorem l_is_table_of : lentIn P "is_table_of" = some [] := rfl
theorem l_check_table : lentIn P "check_table" = some [] := rfl
theorem l_is_set_below : lentIn P "is_set_below" = some [] := rfl
theorem l_are_apart : lentIn P "are_apart" = some [] := rfl
theorem l_judge_points : lentIn P "judge_points" = some [] := rfl
theorem l_feed : lentIn P "_law_feed" = some [] := rfl
theorem l_drawn : lentIn P "_law_drawn" = some [0] := rfl
theorem l_same : lentIn P "_law_same" = some [] := rfl
theorem l_row : lentIn P "_law_row" = some [0] := rfl
theorem l_law_is_set : lentIn P "_law_is_set" = some [] := rfl
theorem l_is_pair : lentIn P "_law_is_pair" = some [] := rfl
theorem l_lots : lentIn P "_law_lots" = some [] := rfl
theorem l_meets : lentIn P "_law_meets" = some [] := rfl
theorem l_bent : lentIn P "_law_bent" = some [0] := rfl
def isI : D → Bool
  | .int _ => true
  | _ => false
def isNat_ : D → Bool
  | .int i => decide (0 ≤ i)
  | _ => false
theorem c_is_integer (n : Nat) (d : D) : callN P (n + 1) "is_integer" [.fz d] = .ok (.d (.bool (isI d)), []) := by
  rw [call_at (fd := f_is_integer) rfl]
  cases d <;> simp [opd, twoD, oneD, settle, look, slotD, alias1, aliasL, lookL, asInt, asBool, fits, sizeLine, binV, cmpV, truthD, slV, biV, isTy, runF, startE, argsFit, lentBack, handBack, store_if, storeN_if, storeV, change, isOwn, io_fz, io_un, io_ow, io_io, ixL, augI, augV, callV, handOver, lentAt, shownAt, putBack, Res.need, slot, immV, isNoneD, negV, SeqAt.shaped, ev_ii, ev_bb, ev_ss, ev_tt, ev_ll, PyData.eqvAll, PyData.canLay0, PyData.canLayAll0, PyData.depth, PyData.depthAll, f_is_integer, isI]
theorem c_is_natural (n : Nat) (d : D) : callN P (n + 2) "is_natural" [.fz d] = .ok (.d (.bool (isNat_ d)), []) := by
  rw [call_at (fd := f_is_natural) rfl]
  cases d <;> simp [opd, twoD, oneD, settle, look, slotD, alias1, aliasL, lookL, asInt, asBool, fits, sizeLine, binV, cmpV, truthD, slV, biV, isTy, runF, startE, argsFit, lentBack, handBack, store_if, storeN_if, storeV, change, isOwn, io_fz, io_un, io_ow, io_io, ixL, augI, augV, callV, handOver, lentAt, shownAt, putBack, Res.need, slot, immV, isNoneD, negV, SeqAt.shaped, ev_ii, ev_bb, ev_ss, ev_tt, ev_ll, PyData.eqvAll, PyData.canLay0, PyData.canLayAll0, PyData.depth, PyData.depthAll, f_is_natural, isNat_, l_is_integer, c_is_integer, isI]
theorem c_are_naturals (n : Nat) (d : D) : callN P (n + 3) "are_naturals" [.fz d] = .ok (.d (.bool (match d with | .tuple xs => xs.all isNat_ | _ => false)), []) := by
  rw [call_at (fd := f_are_naturals) rfl]
  cases d with
  | tuple xs =>
    have h := turns_map (tg := .nm 1) (own := [1]) (ρ := [.fz (.tuple xs), .un]) (elt := cE (callN P (n + 2)) (lentIn P) (.call "is_natural" (.cons (.nm 1) .nil))) (fun x => .bool (isNat_ x)) (xs := xs) (acc := []) fun x _ => ⟨[.fz (.tuple xs), .fz x], by simp [opd, twoD, oneD, settle, look, slotD, alias1, aliasL, lookL, asInt, asBool, fits, sizeLine, binV, cmpV, truthD, slV, biV, isTy, runF, startE, argsFit, lentBack, handBack, store_if, storeN_if, storeV, change, isOwn, io_fz, io_un, io_ow, io_io, ixL, augI, augV, callV, handOver, lentAt, shownAt, putBack, Res.need, slot, immV, isNoneD, negV, SeqAt.shaped, ev_ii, ev_bb, ev_ss, ev_tt, ev_ll, PyData.eqvAll, PyData.canLay0, PyData.canLayAll0, PyData.depth, PyData.depthAll, storeTg], by simp [opd, twoD, oneD, settle, look, slotD, alias1, aliasL, lookL, asInt, asBool, fits, sizeLine, binV, cmpV, truthD, slV, biV, isTy, runF, startE, argsFit, lentBack, handBack, store_if, storeN_if, storeV, change, isOwn, io_fz, io_un, io_ow, io_io, ixL, augI, augV, callV, handOver, lentAt, shownAt, putBack, Res.need, slot, immV, isNoneD, negV, SeqAt.shaped, ev_ii, ev_bb, ev_ss, ev_tt, ev_ll, PyData.eqvAll, PyData.canLay0, PyData.canLayAll0, PyData.depth, PyData.depthAll, l_is_natural, c_is_natural], by simp [opd, twoD, oneD, settle, look, slotD, alias1, aliasL, lookL, asInt, asBool, fits, sizeLine, binV, cmpV, truthD, slV, biV, isTy, runF, startE, argsFit, lentBack, handBack, store_if, storeN_if, storeV, change, isOwn, io_fz, io_un, io_ow, io_io, ixL, augI, augV, callV, handOver, lentAt, shownAt, putBack, Res.need, slot, immV, isNoneD, negV, SeqAt.shaped, ev_ii, ev_bb, ev_ss, ev_tt, ev_ll, PyData.eqvAll, PyData.canLay0, PyData.canLayAll0, PyData.depth, PyData.depthAll, wipeE]⟩
    simp [opd, twoD, oneD, settle, look, slotD, alias1, aliasL, lookL, asInt, asBool, fits, sizeLine, binV, cmpV, truthD, slV, biV, isTy, runF, startE, argsFit, lentBack, handBack, store_if, storeN_if, storeV, change, isOwn, io_fz, io_un, io_ow, io_io, ixL, augI, augV, callV, handOver, lentAt, shownAt, putBack, Res.need, slot, immV, isNoneD, negV, SeqAt.shaped, ev_ii, ev_bb, ev_ss, ev_tt, ev_ll, PyData.eqvAll, PyData.canLay0, PyData.canLayAll0, PyData.depth, PyData.depthAll] at h
    simp [opd, twoD, oneD, settle, look, slotD, alias1, aliasL, lookL, asInt, asBool, fits, sizeLine, binV, cmpV, truthD, slV, biV, isTy, runF, startE, argsFit, lentBack, handBack, store_if, storeN_if, storeV, change, isOwn, io_fz, io_un, io_ow, io_io, ixL, augI, augV, callV, handOver, lentAt, shownAt, putBack, Res.need, slot, immV, isNoneD, negV, SeqAt.shaped, ev_ii, ev_bb, ev_ss, ev_tt, ev_ll, PyData.eqvAll, PyData.canLay0, PyData.canLayAll0, PyData.depth, PyData.depthAll, f_are_naturals, seqOf, wipeE, h, restore, asBools_map, List.all_map, Function.comp_def]
  | _ => simp [opd, twoD, oneD, settle, look, slotD, alias1, aliasL, lookL, asInt, asBool, fits, sizeLine, binV, cmpV, truthD, slV, biV, isTy, runF, startE, argsFit, lentBack, handBack, store_if, storeN_if, storeV, change, isOwn, io_fz, io_un, io_ow, io_io, ixL, augI, augV, callV, handOver, lentAt, shownAt, putBack, Res.need, slot, immV, isNoneD, negV, SeqAt.shaped, ev_ii, ev_bb, ev_ss, ev_tt, ev_ll, PyData.eqvAll, PyData.canLay0, PyData.canLayAll0, PyData.depth, PyData.depthAll, f_are_naturals]
def ltD : D → D → Bool
  | .int a, .int b => decide (a < b)
  | _, _ => false
def isSetD : D → Bool
  | .tuple xs => xs.all isNat_ && (xs.zip xs.tail).all fun p => ltD p.1 p.2
  | _ => false
theorem cut1 (xs : List D) : cutD xs (some 1) none = xs.tail := by
  cases xs with
  | nil => rfl
  | cons x xs =>
    unfold cutD HT.sIx
    simp [opd, twoD, oneD, settle, look, slotD, alias1, aliasL, lookL, asInt, asBool, fits, sizeLine, binV, cmpV, truthD, slV, biV, isTy, runF, startE, argsFit, lentBack, handBack, store_if, storeN_if, storeV, change, isOwn, io_fz, io_un, io_ow, io_io, ixL, augI, augV, callV, handOver, lentAt, shownAt, putBack, Res.need, slot, immV, isNoneD, negV, SeqAt.shaped, ev_ii, ev_bb, ev_ss, ev_tt, ev_ll, PyData.eqvAll, PyData.canLay0, PyData.canLayAll0, PyData.depth, PyData.depthAll]
theorem nats_int {xs : List D} (h : xs.all isNat_ = true) {d : D} (hd : d ∈ xs) : ∃ i : Int, d = .int i ∧ 0 ≤ i := by
  have := List.all_eq_true.mp h d hd
  cases d <;> simp [opd, twoD, oneD, settle, look, slotD, alias1, aliasL, lookL, asInt, asBool, fits, sizeLine, binV, cmpV, truthD, slV, biV, isTy, runF, startE, argsFit, lentBack, handBack, store_if, storeN_if, storeV, change, isOwn, io_fz, io_un, io_ow, io_io, ixL, augI, augV, callV, handOver, lentAt, shownAt, putBack, Res.need, slot, immV, isNoneD, negV, SeqAt.shaped, ev_ii, ev_bb, ev_ss, ev_tt, ev_ll, PyData.eqvAll, PyData.canLay0, PyData.canLayAll0, PyData.depth, PyData.depthAll, isNat_] at this
  exact ⟨_, rfl, this⟩
theorem c_is_set (n : Nat) (d : D) : callN P (n + 4) "is_set" [.fz d] = .ok (.d (.bool (isSetD d)), []) := by
  rw [call_at (fd := f_is_set) rfl]
  cases d with
  | tuple xs =>
    cases hn : xs.all isNat_ with
    | false => simp [opd, twoD, oneD, settle, look, slotD, alias1, aliasL, lookL, asInt, asBool, fits, sizeLine, binV, cmpV, truthD, slV, biV, isTy, runF, startE, argsFit, lentBack, handBack, store_if, storeN_if, storeV, change, isOwn, io_fz, io_un, io_ow, io_io, ixL, augI, augV, callV, handOver, lentAt, shownAt, putBack, Res.need, slot, immV, isNoneD, negV, SeqAt.shaped, ev_ii, ev_bb, ev_ss, ev_tt, ev_ll, PyData.eqvAll, PyData.canLay0, PyData.canLayAll0, PyData.depth, PyData.depthAll, f_is_set, l_are_naturals, c_are_naturals, hn, isSetD]
    | true =>
      have h := turns_map (tg := .tp [1, 2]) (own := [1, 2]) (ρ := [.fz (.tuple xs), .un, .un]) (elt := cE (callN P (n + 3)) (lentIn P) (.cmp .Lt (.nm 1) (.nm 2))) (fun x => .bool (match x with | .tuple [a, b] => ltD a b | _ => false)) (xs := (xs.zip xs.tail).map fun p => .tuple [p.1, p.2]) (acc := []) fun x hx => by
        obtain ⟨p, hp, rfl⟩ := List.mem_map.mp hx
        obtain ⟨a, b⟩ := p
        have hm := List.of_mem_zip hp
        obtain ⟨i, rfl, _⟩ := nats_int hn hm.1
        obtain ⟨j, rfl, _⟩ := nats_int hn (List.mem_of_mem_tail hm.2)
        exact ⟨[.fz (.tuple xs), .fz (.int i), .fz (.int j)], by simp [opd, twoD, oneD, settle, look, slotD, alias1, aliasL, lookL, asInt, asBool, fits, sizeLine, binV, cmpV, truthD, slV, biV, isTy, runF, startE, argsFit, lentBack, handBack, store_if, storeN_if, storeV, change, isOwn, io_fz, io_un, io_ow, io_io, ixL, augI, augV, callV, handOver, lentAt, shownAt, putBack, Res.need, slot, immV, isNoneD, negV, SeqAt.shaped, ev_ii, ev_bb, ev_ss, ev_tt, ev_ll, PyData.eqvAll, PyData.canLay0, PyData.canLayAll0, PyData.depth, PyData.depthAll, storeTg, storeAll], by simp [opd, twoD, oneD, settle, look, slotD, alias1, aliasL, lookL, asInt, asBool, fits, sizeLine, binV, cmpV, truthD, slV, biV, isTy, runF, startE, argsFit, lentBack, handBack, store_if, storeN_if, storeV, change, isOwn, io_fz, io_un, io_ow, io_io, ixL, augI, augV, callV, handOver, lentAt, shownAt, putBack, Res.need, slot, immV, isNoneD, negV, SeqAt.shaped, ev_ii, ev_bb, ev_ss, ev_tt, ev_ll, PyData.eqvAll, PyData.canLay0, PyData.canLayAll0, PyData.depth, PyData.depthAll, ltD], by simp [opd, twoD, oneD, settle, look, slotD, alias1, aliasL, lookL, asInt, asBool, fits, sizeLine, binV, cmpV, truthD, slV, biV, isTy, runF, startE, argsFit, lentBack, handBack, store_if, storeN_if, storeV, change, isOwn, io_fz, io_un, io_ow, io_io, ixL, augI, augV, callV, handOver, lentAt, shownAt, putBack, Res.need, slot, immV, isNoneD, negV, SeqAt.shaped, ev_ii, ev_bb, ev_ss, ev_tt, ev_ll, PyData.eqvAll, PyData.canLay0, PyData.canLayAll0, PyData.depth, PyData.depthAll, wipeE]⟩
      simp [opd, twoD, oneD, settle, look, slotD, alias1, aliasL, lookL, asInt, asBool, fits, sizeLine, binV, cmpV, truthD, slV, biV, isTy, runF, startE, argsFit, lentBack, handBack, store_if, storeN_if, storeV, change, isOwn, io_fz, io_un, io_ow, io_io, ixL, augI, augV, callV, handOver, lentAt, shownAt, putBack, Res.need, slot, immV, isNoneD, negV, SeqAt.shaped, ev_ii, ev_bb, ev_ss, ev_tt, ev_ll, PyData.eqvAll, PyData.canLay0, PyData.canLayAll0, PyData.depth, PyData.depthAll] at h
      simp [opd, twoD, oneD, settle, look, slotD, alias1, aliasL, lookL, asInt, asBool, fits, sizeLine, binV, cmpV, truthD, slV, biV, isTy, runF, startE, argsFit, lentBack, handBack, store_if, storeN_if, storeV, change, isOwn, io_fz, io_un, io_ow, io_io, ixL, augI, augV, callV, handOver, lentAt, shownAt, putBack, Res.need, slot, immV, isNoneD, negV, SeqAt.shaped, ev_ii, ev_bb, ev_ss, ev_tt, ev_ll, PyData.eqvAll, PyData.canLay0, PyData.canLayAll0, PyData.depth, PyData.depthAll, f_is_set, l_are_naturals, c_are_naturals, hn, isSetD, cut1, zipD, wipeE, h, restore, Function.comp_def, asBools_map, List.all_map]
  | _ => simp [opd, twoD, oneD, settle, look, slotD, alias1, aliasL, lookL, asInt, asBool, fits, sizeLine, binV, cmpV, truthD, slV, biV, isTy, runF, startE, argsFit, lentBack, handBack, store_if, storeN_if, storeV, change, isOwn, io_fz, io_un, io_ow, io_io, ixL, augI, augV, callV, handOver, lentAt, shownAt, putBack, Res.need, slot, immV, isNoneD, negV, SeqAt.shaped, ev_ii, ev_bb, ev_ss, ev_tt, ev_ll, PyData.eqvAll, PyData.canLay0, PyData.canLayAll0, PyData.depth, PyData.depthAll, f_is_set, l_are_naturals, c_are_naturals, isSetD]
theorem at_last {xs : List D} (h : xs ≠ []) : atI xs (-1) = xs.getLast? := by
  have hl : 0 < xs.length := List.length_pos_iff.mpr h
  unfold atI ixN
  rw [if_neg (by omega), if_pos (by omega)]
  show xs[((-1 : Int) + xs.length).toNat]? = _
  rw [List.getLast?_eq_getElem?]
  congr 1
  omega
theorem shaped_nats : ∀ {xs : List D}, xs.all isNat_ = true → PyData.canLayAll0 xs = true ∧ PyData.depthAll xs = 0
  | [], _ => ⟨rfl, rfl⟩
  | x :: xs, h => by
    simp only [List.all_cons, Bool.and_eq_true] at h
    obtain ⟨h1, h2⟩ := shaped_nats h.2
    cases x <;> simp [opd, twoD, oneD, settle, look, slotD, alias1, aliasL, lookL, asInt, asBool, fits, sizeLine, binV, cmpV, truthD, slV, biV, isTy, runF, startE, argsFit, lentBack, handBack, store_if, storeN_if, storeV, change, isOwn, io_fz, io_un, io_ow, io_io, ixL, augI, augV, callV, handOver, lentAt, shownAt, putBack, Res.need, slot, immV, isNoneD, negV, SeqAt.shaped, ev_ii, ev_bb, ev_ss, ev_tt, ev_ll, PyData.eqvAll, PyData.canLay0, PyData.canLayAll0, PyData.depth, PyData.depthAll, isNat_] at h
    exact ⟨by simp [opd, twoD, oneD, settle, look, slotD, alias1, aliasL, lookL, asInt, asBool, fits, sizeLine, binV, cmpV, truthD, slV, biV, isTy, runF, startE, argsFit, lentBack, handBack, store_if, storeN_if, storeV, change, isOwn, io_fz, io_un, io_ow, io_io, ixL, augI, augV, callV, handOver, lentAt, shownAt, putBack, Res.need, slot, immV, isNoneD, negV, SeqAt.shaped, ev_ii, ev_bb, ev_ss, ev_tt, ev_ll, PyData.eqvAll, PyData.canLay0, PyData.canLayAll0, PyData.depth, PyData.depthAll, h1], by simp [opd, twoD, oneD, settle, look, slotD, alias1, aliasL, lookL, asInt, asBool, fits, sizeLine, binV, cmpV, truthD, slV, biV, isTy, runF, startE, argsFit, lentBack, handBack, store_if, storeN_if, storeV, change, isOwn, io_fz, io_un, io_ow, io_io, ixL, augI, augV, callV, handOver, lentAt, shownAt, putBack, Res.need, slot, immV, isNoneD, negV, SeqAt.shaped, ev_ii, ev_bb, ev_ss, ev_tt, ev_ll, PyData.eqvAll, PyData.canLay0, PyData.canLayAll0, PyData.depth, PyData.depthAll, h2]⟩
def rowOk (r a : D) : Bool := match r with
  | .tuple xs => xs.isEmpty || (match xs.getLast? with | some l => ltD l a | none => false)
  | _ => false
def isTableD : D → Bool
  | .tuple [a, .tuple rows] => isNat_ a && rows.all fun r => isSetD r && rowOk r a
  | _ => false
theorem c_is_table_of (n : Nat) (d : D) : callN P (n + 5) "is_table_of" [.fz d] = .ok (.d (.bool (isTableD d)), []) := by
  rw [call_at (fd := f_is_table_of) rfl]
  cases d with
  | tuple xs =>
    match xs with
    | [] => simp [opd, twoD, oneD, settle, look, slotD, alias1, aliasL, lookL, asInt, asBool, fits, sizeLine, binV, cmpV, truthD, slV, biV, isTy, runF, startE, argsFit, lentBack, handBack, store_if, storeN_if, storeV, change, isOwn, io_fz, io_un, io_ow, io_io, ixL, augI, augV, callV, handOver, lentAt, shownAt, putBack, Res.need, slot, immV, isNoneD, negV, SeqAt.shaped, ev_ii, ev_bb, ev_ss, ev_tt, ev_ll, PyData.eqvAll, PyData.canLay0, PyData.canLayAll0, PyData.depth, PyData.depthAll, f_is_table_of, isTableD]
    | [a] => simp [opd, twoD, oneD, settle, look, slotD, alias1, aliasL, lookL, asInt, asBool, fits, sizeLine, binV, cmpV, truthD, slV, biV, isTy, runF, startE, argsFit, lentBack, handBack, store_if, storeN_if, storeV, change, isOwn, io_fz, io_un, io_ow, io_io, ixL, augI, augV, callV, handOver, lentAt, shownAt, putBack, Res.need, slot, immV, isNoneD, negV, SeqAt.shaped, ev_ii, ev_bb, ev_ss, ev_tt, ev_ll, PyData.eqvAll, PyData.canLay0, PyData.canLayAll0, PyData.depth, PyData.depthAll, f_is_table_of, isTableD]
    | a :: b :: c :: xs =>
      have e : ¬ ((xs.length : Int) + 1 + 1 + 1 = 2) := by omega
      simp [opd, twoD, oneD, settle, look, slotD, alias1, aliasL, lookL, asInt, asBool, fits, sizeLine, binV, cmpV, truthD, slV, biV, isTy, runF, startE, argsFit, lentBack, handBack, store_if, storeN_if, storeV, change, isOwn, io_fz, io_un, io_ow, io_io, ixL, augI, augV, callV, handOver, lentAt, shownAt, putBack, Res.need, slot, immV, isNoneD, negV, SeqAt.shaped, ev_ii, ev_bb, ev_ss, ev_tt, ev_ll, PyData.eqvAll, PyData.canLay0, PyData.canLayAll0, PyData.depth, PyData.depthAll, f_is_table_of, isTableD, e]
    | [a, b] =>
      cases ha : isNat_ a with
      | false => cases b <;> simp [opd, twoD, oneD, settle, look, slotD, alias1, aliasL, lookL, asInt, asBool, fits, sizeLine, binV, cmpV, truthD, slV, biV, isTy, runF, startE, argsFit, lentBack, handBack, store_if, storeN_if, storeV, change, isOwn, io_fz, io_un, io_ow, io_io, ixL, augI, augV, callV, handOver, lentAt, shownAt, putBack, Res.need, slot, immV, isNoneD, negV, SeqAt.shaped, ev_ii, ev_bb, ev_ss, ev_tt, ev_ll, PyData.eqvAll, PyData.canLay0, PyData.canLayAll0, PyData.depth, PyData.depthAll, f_is_table_of, isTableD, ix_of at0, ix_of at1, l_is_natural, c_is_natural, ha, ixV, at0]
      | true =>
        obtain ⟨i, rfl⟩ : ∃ i, a = .int i := by cases a <;> simp [opd, twoD, oneD, settle, look, slotD, alias1, aliasL, lookL, asInt, asBool, fits, sizeLine, binV, cmpV, truthD, slV, biV, isTy, runF, startE, argsFit, lentBack, handBack, store_if, storeN_if, storeV, change, isOwn, io_fz, io_un, io_ow, io_io, ixL, augI, augV, callV, handOver, lentAt, shownAt, putBack, Res.need, slot, immV, isNoneD, negV, SeqAt.shaped, ev_ii, ev_bb, ev_ss, ev_tt, ev_ll, PyData.eqvAll, PyData.canLay0, PyData.canLayAll0, PyData.depth, PyData.depthAll, isNat_] at ha; exact ⟨_, rfl⟩
        cases b with
        | tuple rows =>
          have h := turns_map (tg := .nm 1) (own := [1]) (ρ := [.fz (.tuple [.int i, .tuple rows]), .un]) (elt := cE (callN P (n + 4)) (lentIn P) (.and (.call "is_set" (.cons (.nm 1) .nil)) (.or (.cmp .Eq (.nm 1) (.tup .nil)) (.cmp .Lt (.ix (.nm 1) (.neg (.c (.int (1))))) (.ix (.nm 0) (.c (.int (0)))))))) (fun r => .bool (isSetD r && rowOk r (.int i))) (xs := rows) (acc := []) fun r hr => by
            refine ⟨[.fz (.tuple [.int i, .tuple rows]), .fz r], by simp [opd, twoD, oneD, settle, look, slotD, alias1, aliasL, lookL, asInt, asBool, fits, sizeLine, binV, cmpV, truthD, slV, biV, isTy, runF, startE, argsFit, lentBack, handBack, store_if, storeN_if, storeV, change, isOwn, io_fz, io_un, io_ow, io_io, ixL, augI, augV, callV, handOver, lentAt, shownAt, putBack, Res.need, slot, immV, isNoneD, negV, SeqAt.shaped, ev_ii, ev_bb, ev_ss, ev_tt, ev_ll, PyData.eqvAll, PyData.canLay0, PyData.canLayAll0, PyData.depth, PyData.depthAll, storeTg], ?_, by simp [opd, twoD, oneD, settle, look, slotD, alias1, aliasL, lookL, asInt, asBool, fits, sizeLine, binV, cmpV, truthD, slV, biV, isTy, runF, startE, argsFit, lentBack, handBack, store_if, storeN_if, storeV, change, isOwn, io_fz, io_un, io_ow, io_io, ixL, augI, augV, callV, handOver, lentAt, shownAt, putBack, Res.need, slot, immV, isNoneD, negV, SeqAt.shaped, ev_ii, ev_bb, ev_ss, ev_tt, ev_ll, PyData.eqvAll, PyData.canLay0, PyData.canLayAll0, PyData.depth, PyData.depthAll, wipeE]⟩
            cases hs : isSetD r with
            | false => simp [opd, twoD, oneD, settle, look, slotD, alias1, aliasL, lookL, asInt, asBool, fits, sizeLine, binV, cmpV, truthD, slV, biV, isTy, runF, startE, argsFit, lentBack, handBack, store_if, storeN_if, storeV, change, isOwn, io_fz, io_un, io_ow, io_io, ixL, augI, augV, callV, handOver, lentAt, shownAt, putBack, Res.need, slot, immV, isNoneD, negV, SeqAt.shaped, ev_ii, ev_bb, ev_ss, ev_tt, ev_ll, PyData.eqvAll, PyData.canLay0, PyData.canLayAll0, PyData.depth, PyData.depthAll, l_is_set, c_is_set, hs]
            | true =>
              cases r with
              | tuple xs =>
                have hn : xs.all isNat_ = true := by
                  simp only [isSetD, Bool.and_eq_true] at hs
                  exact hs.1
                obtain ⟨h1, h2⟩ := shaped_nats hn
                cases xs with
                | nil => simp [opd, twoD, oneD, settle, look, slotD, alias1, aliasL, lookL, asInt, asBool, fits, sizeLine, binV, cmpV, truthD, slV, biV, isTy, runF, startE, argsFit, lentBack, handBack, store_if, storeN_if, storeV, change, isOwn, io_fz, io_un, io_ow, io_io, ixL, augI, augV, callV, handOver, lentAt, shownAt, putBack, Res.need, slot, immV, isNoneD, negV, SeqAt.shaped, ev_ii, ev_bb, ev_ss, ev_tt, ev_ll, PyData.eqvAll, PyData.canLay0, PyData.canLayAll0, PyData.depth, PyData.depthAll, l_is_set, c_is_set, hs, rowOk]
                | cons x xs =>
                  obtain ⟨l, hl⟩ : ∃ l, (x :: xs).getLast? = some l := ⟨_, List.getLast?_eq_some_getLast (by simp [opd, twoD, oneD, settle, look, slotD, alias1, aliasL, lookL, asInt, asBool, fits, sizeLine, binV, cmpV, truthD, slV, biV, isTy, runF, startE, argsFit, lentBack, handBack, store_if, storeN_if, storeV, change, isOwn, io_fz, io_un, io_ow, io_io, ixL, augI, augV, callV, handOver, lentAt, shownAt, putBack, Res.need, slot, immV, isNoneD, negV, SeqAt.shaped, ev_ii, ev_bb, ev_ss, ev_tt, ev_ll, PyData.eqvAll, PyData.canLay0, PyData.canLayAll0, PyData.depth, PyData.depthAll])⟩
                  have hlm : l ∈ x :: xs := List.mem_of_getLast? hl
                  obtain ⟨j, rfl, _⟩ := nats_int hn hlm
                  have hat := (at_last (xs := x :: xs) (by simp [opd, twoD, oneD, settle, look, slotD, alias1, aliasL, lookL, asInt, asBool, fits, sizeLine, binV, cmpV, truthD, slV, biV, isTy, runF, startE, argsFit, lentBack, handBack, store_if, storeN_if, storeV, change, isOwn, io_fz, io_un, io_ow, io_io, ixL, augI, augV, callV, handOver, lentAt, shownAt, putBack, Res.need, slot, immV, isNoneD, negV, SeqAt.shaped, ev_ii, ev_bb, ev_ss, ev_tt, ev_ll, PyData.eqvAll, PyData.canLay0, PyData.canLayAll0, PyData.depth, PyData.depthAll])).trans hl
                  simp only [PyData.canLayAll0, PyData.depthAll, Bool.and_eq_true] at h1 h2
                  have h2' : max (PyData.depth x) (PyData.depthAll xs) = 0 := h2
                  have hx : PyData.depth x = 0 := by omega
                  have hxs : PyData.depthAll xs = 0 := by omega
                  simp [opd, twoD, oneD, settle, look, slotD, alias1, aliasL, lookL, asInt, asBool, fits, sizeLine, binV, cmpV, truthD, slV, biV, isTy, runF, startE, argsFit, lentBack, handBack, store_if, storeN_if, storeV, change, isOwn, io_fz, io_un, io_ow, io_io, ixL, augI, augV, callV, handOver, lentAt, shownAt, putBack, Res.need, slot, immV, isNoneD, negV, SeqAt.shaped, ev_ii, ev_bb, ev_ss, ev_tt, ev_ll, PyData.eqvAll, PyData.canLay0, PyData.canLayAll0, PyData.depth, PyData.depthAll, l_is_set, c_is_set, hs, rowOk, hl, ixV, hat, at0, ltD, h1.1, h1.2, hx, hxs]
              | _ => simp [opd, twoD, oneD, settle, look, slotD, alias1, aliasL, lookL, asInt, asBool, fits, sizeLine, binV, cmpV, truthD, slV, biV, isTy, runF, startE, argsFit, lentBack, handBack, store_if, storeN_if, storeV, change, isOwn, io_fz, io_un, io_ow, io_io, ixL, augI, augV, callV, handOver, lentAt, shownAt, putBack, Res.need, slot, immV, isNoneD, negV, SeqAt.shaped, ev_ii, ev_bb, ev_ss, ev_tt, ev_ll, PyData.eqvAll, PyData.canLay0, PyData.canLayAll0, PyData.depth, PyData.depthAll, isSetD] at hs
          simp [opd, twoD, oneD, settle, look, slotD, alias1, aliasL, lookL, asInt, asBool, fits, sizeLine, binV, cmpV, truthD, slV, biV, isTy, runF, startE, argsFit, lentBack, handBack, store_if, storeN_if, storeV, change, isOwn, io_fz, io_un, io_ow, io_io, ixL, augI, augV, callV, handOver, lentAt, shownAt, putBack, Res.need, slot, immV, isNoneD, negV, SeqAt.shaped, ev_ii, ev_bb, ev_ss, ev_tt, ev_ll, PyData.eqvAll, PyData.canLay0, PyData.canLayAll0, PyData.depth, PyData.depthAll, ixV, at0, at1, l_is_natural, c_is_natural, ha, seqOf, wipeE, restore, asBools_map, List.all_map, Function.comp_def] at h
          simp [opd, twoD, oneD, settle, look, slotD, alias1, aliasL, lookL, asInt, asBool, fits, sizeLine, binV, cmpV, truthD, slV, biV, isTy, runF, startE, argsFit, lentBack, handBack, store_if, storeN_if, storeV, change, isOwn, io_fz, io_un, io_ow, io_io, ixL, augI, augV, callV, handOver, lentAt, shownAt, putBack, Res.need, slot, immV, isNoneD, negV, SeqAt.shaped, ev_ii, ev_bb, ev_ss, ev_tt, ev_ll, PyData.eqvAll, PyData.canLay0, PyData.canLayAll0, PyData.depth, PyData.depthAll, f_is_table_of, isTableD, ixV, at0, at1, l_is_natural, c_is_natural, ha, seqOf, wipeE, h, restore, asBools_map, List.all_map, Function.comp_def]
        | _ => simp [opd, twoD, oneD, settle, look, slotD, alias1, aliasL, lookL, asInt, asBool, fits, sizeLine, binV, cmpV, truthD, slV, biV, isTy, runF, startE, argsFit, lentBack, handBack, store_if, storeN_if, storeV, change, isOwn, io_fz, io_un, io_ow, io_io, ixL, augI, augV, callV, handOver, lentAt, shownAt, putBack, Res.need, slot, immV, isNoneD, negV, SeqAt.shaped, ev_ii, ev_bb, ev_ss, ev_tt, ev_ll, PyData.eqvAll, PyData.canLay0, PyData.canLayAll0, PyData.depth, PyData.depthAll, f_is_table_of, isTableD, ixV, at0, at1, l_is_natural, c_is_natural, ha]
  | _ => simp [opd, twoD, oneD, settle, look, slotD, alias1, aliasL, lookL, asInt, asBool, fits, sizeLine, binV, cmpV, truthD, slV, biV, isTy, runF, startE, argsFit, lentBack, handBack, store_if, storeN_if, storeV, change, isOwn, io_fz, io_un, io_ow, io_io, ixL, augI, augV, callV, handOver, lentAt, shownAt, putBack, Res.need, slot, immV, isNoneD, negV, SeqAt.shaped, ev_ii, ev_bb, ev_ss, ev_tt, ev_ll, PyData.eqvAll, PyData.canLay0, PyData.canLayAll0, PyData.depth, PyData.depthAll, f_is_table_of, isTableD]
/-- a row: ascending, within the columns -/
def Row (size : Int) (r : D) : Prop := ∃ ns : List Int, r = .tuple (ns.map PyData.int) ∧ ns.Pairwise (· < ·) ∧ (∀ i ∈ ns, 0 ≤ i ∧ i < size) ∧ ns.length ≤ 1000
theorem asc_zip : ∀ {ns : List Int}, ns.Pairwise (· < ·) → ((ns.map PyData.int).zip (ns.map PyData.int).tail).all (fun p => ltD p.1 p.2) = true
  | [], _ => rfl
  | [_], _ => rfl
  | a :: b :: ns, h => by
    have h1 := (List.pairwise_cons.mp h).1 b List.mem_cons_self
    have h2 := asc_zip (List.pairwise_cons.mp h).2
    simp only [List.map_cons, List.tail_cons, List.zip_cons_cons, List.all_cons, Bool.and_eq_true] at h2 ⊢
    exact ⟨by simp [opd, twoD, oneD, settle, look, slotD, alias1, aliasL, lookL, asInt, asBool, fits, sizeLine, binV, cmpV, truthD, slV, biV, isTy, runF, startE, argsFit, lentBack, handBack, store_if, storeN_if, storeV, change, isOwn, io_fz, io_un, io_ow, io_io, ixL, augI, augV, callV, handOver, lentAt, shownAt, putBack, Res.need, slot, immV, isNoneD, negV, SeqAt.shaped, ev_ii, ev_bb, ev_ss, ev_tt, ev_ll, PyData.eqvAll, PyData.canLay0, PyData.canLayAll0, PyData.depth, PyData.depthAll, ltD, h1], h2⟩
theorem Row.set {size : Int} {r : D} (h : Row size r) : isSetD r = true ∧ rowOk r (.int size) = true := by
  obtain ⟨ns, rfl, h1, h2, _⟩ := h
  refine ⟨?_, ?_⟩
  · simp only [isSetD, Bool.and_eq_true]
    refine ⟨List.all_eq_true.mpr fun d hd => ?_, asc_zip h1⟩
    obtain ⟨i, hi, rfl⟩ := List.mem_map.mp hd
    simp [opd, twoD, oneD, settle, look, slotD, alias1, aliasL, lookL, asInt, asBool, fits, sizeLine, binV, cmpV, truthD, slV, biV, isTy, runF, startE, argsFit, lentBack, handBack, store_if, storeN_if, storeV, change, isOwn, io_fz, io_un, io_ow, io_io, ixL, augI, augV, callV, handOver, lentAt, shownAt, putBack, Res.need, slot, immV, isNoneD, negV, SeqAt.shaped, ev_ii, ev_bb, ev_ss, ev_tt, ev_ll, PyData.eqvAll, PyData.canLay0, PyData.canLayAll0, PyData.depth, PyData.depthAll, isNat_, (h2 i hi).1]
  · cases hl : ns.getLast? with
    | none =>
      rw [List.getLast?_eq_none_iff] at hl
      subst hl
      rfl
    | some l =>
      have := h2 l (List.mem_of_getLast? hl)
      simp [opd, twoD, oneD, settle, look, slotD, alias1, aliasL, lookL, asInt, asBool, fits, sizeLine, binV, cmpV, truthD, slV, biV, isTy, runF, startE, argsFit, lentBack, handBack, store_if, storeN_if, storeV, change, isOwn, io_fz, io_un, io_ow, io_io, ixL, augI, augV, callV, handOver, lentAt, shownAt, putBack, Res.need, slot, immV, isNoneD, negV, SeqAt.shaped, ev_ii, ev_bb, ev_ss, ev_tt, ev_ll, PyData.eqvAll, PyData.canLay0, PyData.canLayAll0, PyData.depth, PyData.depthAll, rowOk, List.getLast?_map, hl, ltD, this.2]
theorem table_ok {size : Int} {rows : List D} (h0 : 0 ≤ size) (h : ∀ r ∈ rows, Row size r) : isTableD (.tuple [.int size, .tuple rows]) = true := by
  simp only [isTableD, Bool.and_eq_true]
  refine ⟨by simp [opd, twoD, oneD, settle, look, slotD, alias1, aliasL, lookL, asInt, asBool, fits, sizeLine, binV, cmpV, truthD, slV, biV, isTy, runF, startE, argsFit, lentBack, handBack, store_if, storeN_if, storeV, change, isOwn, io_fz, io_un, io_ow, io_io, ixL, augI, augV, callV, handOver, lentAt, shownAt, putBack, Res.need, slot, immV, isNoneD, negV, SeqAt.shaped, ev_ii, ev_bb, ev_ss, ev_tt, ev_ll, PyData.eqvAll, PyData.canLay0, PyData.canLayAll0, PyData.depth, PyData.depthAll, isNat_, h0], List.all_eq_true.mpr fun r hr => ?_⟩
  obtain ⟨h1, h2⟩ := (h r hr).set
  rw [h1, h2]
  rfl
theorem canL_ints : ∀ ns : List Int, PyData.canLayAll0 (ns.map PyData.int) = true
  | [] => rfl
  | n :: ns => by
    show (true && PyData.canLayAll0 (ns.map PyData.int)) = true
    rw [canL_ints ns]
    rfl
theorem depL_ints : ∀ ns : List Int, PyData.depthAll (ns.map PyData.int) = 0
  | [] => rfl
  | n :: ns => by
    show max 0 (PyData.depthAll (ns.map PyData.int)) = 0
    rw [depL_ints ns]
    rfl
def nthS : Ss → Nat → S
  | .cons s _, 0 => s
  | .cons _ ss, n + 1 => nthS ss n
  | .nil, _ => .pass
theorem rows_shape {size : Int} : ∀ {rows : List D}, (∀ r ∈ rows, Row size r) → PyData.canLayAll0 rows = true ∧ PyData.depthAll rows ≤ 1
  | [], _ => ⟨rfl, Nat.zero_le _⟩
  | r :: rows, h => by
    obtain ⟨h1, h2⟩ := rows_shape fun r hr => h r (List.mem_cons_of_mem _ hr)
    obtain ⟨ns, rfl, _⟩ := h r List.mem_cons_self
    refine ⟨?_, ?_⟩
    · show (PyData.canLayAll0 (ns.map PyData.int) && PyData.canLayAll0 rows) = true
      rw [canL_ints, h1]
      rfl
    · show max (PyData.depthAll (ns.map PyData.int) + 1) (PyData.depthAll rows) ≤ 1
      rw [depL_ints]
      omega
theorem ss_cons {call : CallT} {lo : String → Option (List Nat)} {s : S} {ss : Ss} {ρ ρ1 : Env} (h : evS call lo s ρ = .ok (.nx ρ1)) : evSs call lo (.cons s ss) ρ = evSs call lo ss ρ1 := by
  show (evS call lo s ρ).bind (fun o => match o with | .nx ρ1 => evSs call lo ss ρ1 | o => .ok o) = _
  rw [h]
  rfl
abbrev tI (ns : List Int) : D := .tuple (ns.map PyData.int)
theorem c_check_table (n : Nat) (d : D) (h : isTableD d = true) : callN P (n + 6) "check_table" [.fz d] = .ok (.d .none, []) := by
  rw [call_at (fd := f_check_table) rfl]
  simp [opd, twoD, oneD, settle, look, slotD, alias1, aliasL, lookL, asInt, asBool, fits, sizeLine, binV, cmpV, truthD, slV, biV, isTy, runF, startE, argsFit, lentBack, handBack, store_if, storeN_if, storeV, change, isOwn, io_fz, io_un, io_ow, io_io, ixL, augI, augV, callV, handOver, lentAt, shownAt, putBack, Res.need, slot, immV, isNoneD, negV, SeqAt.shaped, ev_ii, ev_bb, ev_ss, ev_tt, ev_ll, PyData.eqvAll, PyData.canLay0, PyData.canLayAll0, PyData.depth, PyData.depthAll, f_check_table, l_is_table_of, c_is_table_of, h]
def tR (rows : List (List Int)) : D := .tuple (rows.map tI)
def board (m : Nat) (rows : List (List Int)) : D := .tuple [.int m, tR rows]
/-- rows of columns below m, ascending -/
def RowZ (m : Nat) (r : List Int) : Prop := r.Pairwise (· < ·) ∧ (∀ i ∈ r, 0 ≤ i ∧ i < (m : Int)) ∧ r.length ≤ 1000
theorem board_ok {m : Nat} {rows : List (List Int)} (h : ∀ r ∈ rows, RowZ m r) : isTableD (board m rows) = true :=
  table_ok (by omega) fun d hd => by
    obtain ⟨r, hr, rfl⟩ := List.mem_map.mp hd
    obtain ⟨h1, h2, h3⟩ := h r hr
    exact ⟨r, rfl, h1, h2, h3⟩
end PX
namespace PX
open PySem PySem.Spec PyProof.Rows L2
/-- the feed: b draws are still to come -/
def Feed (b : Nat) (f : List D) : Prop := ∃ (cs : List Int) (at_ cur : Int), f = [.list (cs.map PyData.int), .int at_, .int cur] ∧ 0 ≤ at_ ∧ at_ + b ≤ 1000000000
theorem Feed.weak {b b' : Nat} {f : List D} (h : Feed b f) (hb : b' ≤ b) : Feed b' f := by
  obtain ⟨cs, a, c, e, h1, h2⟩ := h
  exact ⟨cs, a, c, e, h1, by omega⟩
theorem cut_ints (o : List Int) (lo hi : Option Int) : ∃ k : List Int, k.Sublist o ∧ cutD (o.map PyData.int) lo hi = k.map PyData.int := by
  unfold cutD
  rw [← List.map_drop, ← List.map_take]
  exact ⟨_, (List.take_sublist _ _).trans (List.drop_sublist _ _), rfl⟩
theorem c_feed (n : Nat) (ns : List Int) : ∃ f, callN P (n + 1) "_law_feed" [.fz (.list (ns.map PyData.int))] = .ok (.fr f, []) ∧ Feed 900000000 f := by
  obtain ⟨k, _, hk⟩ := cut_ints ns none (some 63)
  refine ⟨[.list (k.map PyData.int), .int 0, .int 0], ?_, k, 0, 0, rfl, by decide, by decide⟩
  have s1 : evS (callN P n) (lentIn P) (nthS f__law_feed.body 0) [.fz (.list (ns.map PyData.int))] = .ok (.ret (.fr [.list (k.map PyData.int), .int 0, .int 0]) [.fz (.list (ns.map PyData.int))]) := by
    simp [opd, twoD, oneD, settle, look, slotD, alias1, aliasL, lookL, asInt, asBool, fits, sizeLine, binV, cmpV, truthD, slV, biV, isTy, runF, startE, argsFit, lentBack, handBack, store_if, storeN_if, storeV, change, isOwn, io_fz, io_un, io_ow, io_io, ixL, augI, augV, callV, handOver, lentAt, shownAt, putBack, Res.need, slot, immV, isNoneD, negV, SeqAt.shaped, ev_ii, ev_bb, ev_ss, ev_tt, ev_ll, PyData.eqvAll, PyData.canLay0, PyData.canLayAll0, PyData.depth, PyData.depthAll, nthS, f__law_feed, hk, biV]
  exact call_ret (fd := f__law_feed) rfl ⟨rfl, rfl⟩ (ss_ret s1) rfl rfl
variable (call : CallT) (lo : String → Option (List Nat))
theorem fmodB {a m : Int} (hm : 0 < m) : 0 ≤ a.fmod m ∧ a.fmod m < m := ⟨Int.fmod_nonneg_of_pos a hm, Int.fmod_lt_of_pos a hm⟩
def drRest : Ss := match f__law_drawn.body with
  | .cons _ ss => ss
  | .nil => .nil
def drIn : Ss := match nthS f__law_drawn.body 0 with
  | .ife _ a _ => a
  | _ => .nil
theorem dr_rest (cs : List D) (at_ cur many : Int) (s2 s3 s4 s5 s6 s7 : Slot) (h7 : isIo s7 = false) (hm : 0 < many) (hm' : many ≤ 1000000) :
    ∃ cur', evSs call lo drRest [.io [.list cs, .int at_, .int cur], .fz (.int many), s2, s3, s4, s5, s6, s7] = .ok (.ret (.d (.int (cur.fmod many))) [.io [.list cs, .int at_, .int cur'], .fz (.int many), s2, s3, s4, s5, s6, .fz (.int (cur.fmod many))]) := by
  have hn : many ≠ 0 := by omega
  have hn2 : many.natAbs < 1073741824 := by omega
  refine ⟨cur.fdiv many, ?_⟩
  have e : drRest = .cons (nthS drRest 0) (.cons (nthS drRest 1) (.cons (nthS drRest 2) .nil)) := rfl
  have s1 : evS call lo (nthS drRest 0) [.io [.list cs, .int at_, .int cur], .fz (.int many), s2, s3, s4, s5, s6, s7] = .ok (.nx [.io [.list cs, .int at_, .int cur], .fz (.int many), s2, s3, s4, s5, s6, .fz (.int (cur.fmod many))]) := by
    simp [opd, twoD, oneD, settle, look, slotD, alias1, aliasL, lookL, asInt, asBool, fits, sizeLine, binV, cmpV, truthD, slV, biV, isTy, runF, startE, argsFit, lentBack, handBack, store_if, storeN_if, storeV, change, isOwn, io_fz, io_un, io_ow, io_io, ixL, augI, augV, callV, handOver, lentAt, shownAt, putBack, Res.need, slot, immV, isNoneD, negV, SeqAt.shaped, ev_ii, ev_bb, ev_ss, ev_tt, ev_ll, PyData.eqvAll, PyData.canLay0, PyData.canLayAll0, PyData.depth, PyData.depthAll, nthS, drRest, f__law_drawn, ix_of at2, hn, h7, biV]
  have s2' : evS call lo (nthS drRest 1) [.io [.list cs, .int at_, .int cur], .fz (.int many), s2, s3, s4, s5, s6, .fz (.int (cur.fmod many))] = .ok (.nx [.io [.list cs, .int at_, .int (cur.fdiv many)], .fz (.int many), s2, s3, s4, s5, s6, .fz (.int (cur.fmod many))]) := by
    simp [opd, twoD, oneD, settle, look, slotD, alias1, aliasL, lookL, asInt, asBool, fits, sizeLine, binV, cmpV, truthD, slV, biV, isTy, runF, startE, argsFit, lentBack, handBack, store_if, storeN_if, storeV, change, isOwn, io_fz, io_un, io_ow, io_io, ixL, augI, augV, callV, handOver, lentAt, shownAt, putBack, Res.need, slot, immV, isNoneD, negV, SeqAt.shaped, ev_ii, ev_bb, ev_ss, ev_tt, ev_ll, PyData.eqvAll, PyData.canLay0, PyData.canLayAll0, PyData.depth, PyData.depthAll, nthS, drRest, f__law_drawn, ix_of at2, hn, hn2, biV, set2]
  rw [e, ss_nx s1, ss_nx s2']
  exact ss_ret (by simp [opd, twoD, oneD, settle, look, slotD, alias1, aliasL, lookL, asInt, asBool, fits, sizeLine, binV, cmpV, truthD, slV, biV, isTy, runF, startE, argsFit, lentBack, handBack, store_if, storeN_if, storeV, change, isOwn, io_fz, io_un, io_ow, io_io, ixL, augI, augV, callV, handOver, lentAt, shownAt, putBack, Res.need, slot, immV, isNoneD, negV, SeqAt.shaped, ev_ii, ev_bb, ev_ss, ev_tt, ev_ll, PyData.eqvAll, PyData.canLay0, PyData.canLayAll0, PyData.depth, PyData.depthAll, nthS, drRest, f__law_drawn])
theorem c_drawn (n : Nat) {b : Nat} {f : List D} (many : Nat) (h : Feed (b + 1) f) (hm : 0 < many) (hm' : many ≤ 1000000) :
    ∃ (d : Nat) (f' : List D), callN P (n + 1) "_law_drawn" [.io f, .fz (.int (many : Int))] = .ok (.d (.int (d : Int)), [f']) ∧ d < many ∧ Feed b f' := by
  obtain ⟨cs, at_, cur, rfl, h0, h1⟩ := h
  have nat_of : ∀ {x : Int}, 0 ≤ x → x < many → ∃ d : Nat, x = (d : Int) ∧ d < many := fun {x} p q => ⟨x.toNat, by omega, by omega⟩
  have eb : f__law_drawn.body = .cons (nthS f__law_drawn.body 0) drRest := rfl
  by_cases hc : cur = 0
  · subst hc
    -- a cell is looked at
    have inn : ∃ c : Int, ∀ call lo, evSs call lo (.cons (nthS drIn 0) (.cons (nthS drIn 1) (.cons (nthS drIn 2) (.cons (nthS drIn 3) (.cons (nthS drIn 4) .nil))))) [.io [.list (cs.map PyData.int), .int at_, .int 0], .fz (.int many), .un, .un, .un, .un, .un, .un] = .ok (.nx [.io [.list (cs.map PyData.int), .int (at_ + 1), .int 0], .fz (.int many), .fz (.list (cs.map PyData.int)), .fz (.int at_), .fz (.int c), .un, .un, .un]) := by
      by_cases hl : cs.length = 0
      · refine ⟨0, fun call lo => ?_⟩
        have hcs : cs = [] := List.length_eq_zero_iff.mp hl
        subst hcs
        have s0 : evS call lo (nthS drIn 0) [.io [.list [], .int at_, .int 0], .fz (.int many), .un, .un, .un, .un, .un, .un] = .ok (.nx [.io [.list [], .int at_, .int 0], .fz (.int many), .fz (.list []), .un, .un, .un, .un, .un]) := by simp [opd, twoD, oneD, settle, look, slotD, alias1, aliasL, lookL, asInt, asBool, fits, sizeLine, binV, cmpV, truthD, slV, biV, isTy, runF, startE, argsFit, lentBack, handBack, store_if, storeN_if, storeV, change, isOwn, io_fz, io_un, io_ow, io_io, ixL, augI, augV, callV, handOver, lentAt, shownAt, putBack, Res.need, slot, immV, isNoneD, negV, SeqAt.shaped, ev_ii, ev_bb, ev_ss, ev_tt, ev_ll, PyData.eqvAll, PyData.canLay0, PyData.canLayAll0, PyData.depth, PyData.depthAll, nthS, drIn, f__law_drawn, ix_of at0]
        have s1 : evS call lo (nthS drIn 1) [.io [.list [], .int at_, .int 0], .fz (.int many), .fz (.list []), .un, .un, .un, .un, .un] = .ok (.nx [.io [.list [], .int at_, .int 0], .fz (.int many), .fz (.list []), .fz (.int at_), .un, .un, .un, .un]) := by simp [opd, twoD, oneD, settle, look, slotD, alias1, aliasL, lookL, asInt, asBool, fits, sizeLine, binV, cmpV, truthD, slV, biV, isTy, runF, startE, argsFit, lentBack, handBack, store_if, storeN_if, storeV, change, isOwn, io_fz, io_un, io_ow, io_io, ixL, augI, augV, callV, handOver, lentAt, shownAt, putBack, Res.need, slot, immV, isNoneD, negV, SeqAt.shaped, ev_ii, ev_bb, ev_ss, ev_tt, ev_ll, PyData.eqvAll, PyData.canLay0, PyData.canLayAll0, PyData.depth, PyData.depthAll, nthS, drIn, f__law_drawn, ix_of at1]
        have s2 : evS call lo (nthS drIn 2) [.io [.list [], .int at_, .int 0], .fz (.int many), .fz (.list []), .fz (.int at_), .un, .un, .un, .un] = .ok (.nx [.io [.list [], .int (at_ + 1), .int 0], .fz (.int many), .fz (.list []), .fz (.int at_), .un, .un, .un, .un]) := by simp [opd, twoD, oneD, settle, look, slotD, alias1, aliasL, lookL, asInt, asBool, fits, sizeLine, binV, cmpV, truthD, slV, biV, isTy, runF, startE, argsFit, lentBack, handBack, store_if, storeN_if, storeV, change, isOwn, io_fz, io_un, io_ow, io_io, ixL, augI, augV, callV, handOver, lentAt, shownAt, putBack, Res.need, slot, immV, isNoneD, negV, SeqAt.shaped, ev_ii, ev_bb, ev_ss, ev_tt, ev_ll, PyData.eqvAll, PyData.canLay0, PyData.canLayAll0, PyData.depth, PyData.depthAll, nthS, drIn, f__law_drawn, set1]
        have s3 : evS call lo (nthS drIn 3) [.io [.list [], .int (at_ + 1), .int 0], .fz (.int many), .fz (.list []), .fz (.int at_), .un, .un, .un, .un] = .ok (.nx [.io [.list [], .int (at_ + 1), .int 0], .fz (.int many), .fz (.list []), .fz (.int at_), .fz (.int 0), .un, .un, .un]) := by simp [opd, twoD, oneD, settle, look, slotD, alias1, aliasL, lookL, asInt, asBool, fits, sizeLine, binV, cmpV, truthD, slV, biV, isTy, runF, startE, argsFit, lentBack, handBack, store_if, storeN_if, storeV, change, isOwn, io_fz, io_un, io_ow, io_io, ixL, augI, augV, callV, handOver, lentAt, shownAt, putBack, Res.need, slot, immV, isNoneD, negV, SeqAt.shaped, ev_ii, ev_bb, ev_ss, ev_tt, ev_ll, PyData.eqvAll, PyData.canLay0, PyData.canLayAll0, PyData.depth, PyData.depthAll, nthS, drIn, f__law_drawn]
        have s4 : evS call lo (nthS drIn 4) [.io [.list [], .int (at_ + 1), .int 0], .fz (.int many), .fz (.list []), .fz (.int at_), .fz (.int 0), .un, .un, .un] = .ok (.nx [.io [.list [], .int (at_ + 1), .int 0], .fz (.int many), .fz (.list []), .fz (.int at_), .fz (.int 0), .un, .un, .un]) := by simp [opd, twoD, oneD, settle, look, slotD, alias1, aliasL, lookL, asInt, asBool, fits, sizeLine, binV, cmpV, truthD, slV, biV, isTy, runF, startE, argsFit, lentBack, handBack, store_if, storeN_if, storeV, change, isOwn, io_fz, io_un, io_ow, io_io, ixL, augI, augV, callV, handOver, lentAt, shownAt, putBack, Res.need, slot, immV, isNoneD, negV, SeqAt.shaped, ev_ii, ev_bb, ev_ss, ev_tt, ev_ll, PyData.eqvAll, PyData.canLay0, PyData.canLayAll0, PyData.depth, PyData.depthAll, nthS, drIn, f__law_drawn, biV]
        exact (ss_nx s0).trans ((ss_nx s1).trans ((ss_nx s2).trans ((ss_nx s3).trans ((ss_nx s4).trans rfl))))
      · have hlp : (0 : Int) < (cs.length : Int) := by omega
        obtain ⟨q0, q1⟩ := fmodB (a := at_) hlp
        obtain ⟨k, hk⟩ : ∃ k : Nat, at_.fmod cs.length = (k : Int) := ⟨(at_.fmod cs.length).toNat, by omega⟩
        have hkl : k < cs.length := by omega
        have ek : atI (cs.map PyData.int) (k : Int) = some (.int cs[k]) := by
          rw [atI_nat (by simpa using hkl), List.getElem?_map, List.getElem?_eq_getElem hkl]
          rfl
        have hne : (cs.length : Int) ≠ 0 := by omega
        refine ⟨cs[k], fun call lo => ?_⟩
        have s0 : evS call lo (nthS drIn 0) [.io [.list (cs.map PyData.int), .int at_, .int 0], .fz (.int many), .un, .un, .un, .un, .un, .un] = .ok (.nx [.io [.list (cs.map PyData.int), .int at_, .int 0], .fz (.int many), .fz (.list (cs.map PyData.int)), .un, .un, .un, .un, .un]) := by simp [opd, twoD, oneD, settle, look, slotD, alias1, aliasL, lookL, asInt, asBool, fits, sizeLine, binV, cmpV, truthD, slV, biV, isTy, runF, startE, argsFit, lentBack, handBack, store_if, storeN_if, storeV, change, isOwn, io_fz, io_un, io_ow, io_io, ixL, augI, augV, callV, handOver, lentAt, shownAt, putBack, Res.need, slot, immV, isNoneD, negV, SeqAt.shaped, ev_ii, ev_bb, ev_ss, ev_tt, ev_ll, PyData.eqvAll, PyData.canLay0, PyData.canLayAll0, PyData.depth, PyData.depthAll, nthS, drIn, f__law_drawn, ix_of at0]
        have s1 : evS call lo (nthS drIn 1) [.io [.list (cs.map PyData.int), .int at_, .int 0], .fz (.int many), .fz (.list (cs.map PyData.int)), .un, .un, .un, .un, .un] = .ok (.nx [.io [.list (cs.map PyData.int), .int at_, .int 0], .fz (.int many), .fz (.list (cs.map PyData.int)), .fz (.int at_), .un, .un, .un, .un]) := by simp [opd, twoD, oneD, settle, look, slotD, alias1, aliasL, lookL, asInt, asBool, fits, sizeLine, binV, cmpV, truthD, slV, biV, isTy, runF, startE, argsFit, lentBack, handBack, store_if, storeN_if, storeV, change, isOwn, io_fz, io_un, io_ow, io_io, ixL, augI, augV, callV, handOver, lentAt, shownAt, putBack, Res.need, slot, immV, isNoneD, negV, SeqAt.shaped, ev_ii, ev_bb, ev_ss, ev_tt, ev_ll, PyData.eqvAll, PyData.canLay0, PyData.canLayAll0, PyData.depth, PyData.depthAll, nthS, drIn, f__law_drawn, ix_of at1]
        have s2 : evS call lo (nthS drIn 2) [.io [.list (cs.map PyData.int), .int at_, .int 0], .fz (.int many), .fz (.list (cs.map PyData.int)), .fz (.int at_), .un, .un, .un, .un] = .ok (.nx [.io [.list (cs.map PyData.int), .int (at_ + 1), .int 0], .fz (.int many), .fz (.list (cs.map PyData.int)), .fz (.int at_), .un, .un, .un, .un]) := by simp [opd, twoD, oneD, settle, look, slotD, alias1, aliasL, lookL, asInt, asBool, fits, sizeLine, binV, cmpV, truthD, slV, biV, isTy, runF, startE, argsFit, lentBack, handBack, store_if, storeN_if, storeV, change, isOwn, io_fz, io_un, io_ow, io_io, ixL, augI, augV, callV, handOver, lentAt, shownAt, putBack, Res.need, slot, immV, isNoneD, negV, SeqAt.shaped, ev_ii, ev_bb, ev_ss, ev_tt, ev_ll, PyData.eqvAll, PyData.canLay0, PyData.canLayAll0, PyData.depth, PyData.depthAll, nthS, drIn, f__law_drawn, set1]
        have s3 : evS call lo (nthS drIn 3) [.io [.list (cs.map PyData.int), .int (at_ + 1), .int 0], .fz (.int many), .fz (.list (cs.map PyData.int)), .fz (.int at_), .un, .un, .un, .un] = .ok (.nx [.io [.list (cs.map PyData.int), .int (at_ + 1), .int 0], .fz (.int many), .fz (.list (cs.map PyData.int)), .fz (.int at_), .fz (.int 0), .un, .un, .un]) := by simp [opd, twoD, oneD, settle, look, slotD, alias1, aliasL, lookL, asInt, asBool, fits, sizeLine, binV, cmpV, truthD, slV, biV, isTy, runF, startE, argsFit, lentBack, handBack, store_if, storeN_if, storeV, change, isOwn, io_fz, io_un, io_ow, io_io, ixL, augI, augV, callV, handOver, lentAt, shownAt, putBack, Res.need, slot, immV, isNoneD, negV, SeqAt.shaped, ev_ii, ev_bb, ev_ss, ev_tt, ev_ll, PyData.eqvAll, PyData.canLay0, PyData.canLayAll0, PyData.depth, PyData.depthAll, nthS, drIn, f__law_drawn]
        have s4 : evS call lo (nthS drIn 4) [.io [.list (cs.map PyData.int), .int (at_ + 1), .int 0], .fz (.int many), .fz (.list (cs.map PyData.int)), .fz (.int at_), .fz (.int 0), .un, .un, .un] = .ok (.nx [.io [.list (cs.map PyData.int), .int (at_ + 1), .int 0], .fz (.int many), .fz (.list (cs.map PyData.int)), .fz (.int at_), .fz (.int cs[k]), .un, .un, .un]) := by simp [opd, twoD, oneD, settle, look, slotD, alias1, aliasL, lookL, asInt, asBool, fits, sizeLine, binV, cmpV, truthD, slV, biV, isTy, runF, startE, argsFit, lentBack, handBack, store_if, storeN_if, storeV, change, isOwn, io_fz, io_un, io_ow, io_io, ixL, augI, augV, callV, handOver, lentAt, shownAt, putBack, Res.need, slot, immV, isNoneD, negV, SeqAt.shaped, ev_ii, ev_bb, ev_ss, ev_tt, ev_ll, PyData.eqvAll, PyData.canLay0, PyData.canLayAll0, PyData.depth, PyData.depthAll, nthS, drIn, f__law_drawn, biV, hl, hk, ixV, ek, Nat.pos_of_ne_zero hl]
        exact (ss_nx s0).trans ((ss_nx s1).trans ((ss_nx s2).trans ((ss_nx s3).trans ((ss_nx s4).trans rfl))))
    obtain ⟨c, inn⟩ := inn
    have inn := inn (callN P n) (lentIn P)
    have ei : drIn = .cons (nthS drIn 0) (.cons (nthS drIn 1) (.cons (nthS drIn 2) (.cons (nthS drIn 3) (.cons (nthS drIn 4) (.cons (nthS drIn 5) (.cons (nthS drIn 6) .nil)))))) := rfl
    -- what follows the five
    have five : ∀ r, evSs (callN P n) (lentIn P) (.cons (nthS drIn 5) (.cons (nthS drIn 6) .nil)) [.io [.list (cs.map PyData.int), .int (at_ + 1), .int 0], .fz (.int many), .fz (.list (cs.map PyData.int)), .fz (.int at_), .fz (.int c), .un, .un, .un] = r → evSs (callN P n) (lentIn P) drIn [.io [.list (cs.map PyData.int), .int at_, .int 0], .fz (.int many), .un, .un, .un, .un, .un, .un] = r := fun r hr => by
      rw [ei]
      have app : ∀ {a b c d e : S} {ss : Ss} {ρ ρ1 : Env}, evSs (callN P n) (lentIn P) (.cons a (.cons b (.cons c (.cons d (.cons e .nil))))) ρ = .ok (.nx ρ1) → evSs (callN P n) (lentIn P) (.cons a (.cons b (.cons c (.cons d (.cons e ss))))) ρ = evSs (callN P n) (lentIn P) ss ρ1 := by
        intro a b c d e ss ρ ρ1 h
        have step : ∀ {s : S} {t u : Ss} {ρ ρ1 : Env} {r : Res Out}, evSs (callN P n) (lentIn P) (.cons s t) ρ = .ok (.nx ρ1) → (∀ ρ2, evSs (callN P n) (lentIn P) t ρ2 = .ok (.nx ρ1) → evSs (callN P n) (lentIn P) u ρ2 = r) → evSs (callN P n) (lentIn P) (.cons s u) ρ = r := by
          intro s t u ρ ρ1 r h hk
          rw [x_Ss_cons] at h ⊢
          cases hs : evS (callN P n) (lentIn P) s ρ with
          | bad => rw [hs] at h; cases h
          | ex _ _ _ => rw [hs] at h; cases h
          | ok o =>
            rw [hs] at h
            cases o with
            | nx ρ2 => exact hk ρ2 h
            | ret _ _ => cases h
            | bk _ => cases h
            | ct _ => cases h
        refine step h fun _ h => step h fun _ h => step h fun _ h => step h fun _ h => step h fun _ h => ?_
        have h : (.ok (.nx _) : Res Out) = .ok (.nx ρ1) := h
        cases h
        rfl
      rw [app inn]
      exact hr
    have t0 : evT (callN P n) (lentIn P) (.val (.cmp .Eq (.ix (.nm 0) (.c (.int (2)))) (.c (.int (0))))) [.io [.list (cs.map PyData.int), .int at_, .int 0], .fz (.int many), .un, .un, .un, .un, .un, .un] = .ok (true, [.io [.list (cs.map PyData.int), .int at_, .int 0], .fz (.int many), .un, .un, .un, .un, .un, .un]) := by
      simp [opd, twoD, oneD, settle, look, slotD, alias1, aliasL, lookL, asInt, asBool, fits, sizeLine, binV, cmpV, truthD, slV, biV, isTy, runF, startE, argsFit, lentBack, handBack, store_if, storeN_if, storeV, change, isOwn, io_fz, io_un, io_ow, io_io, ixL, augI, augV, callV, handOver, lentAt, shownAt, putBack, Res.need, slot, immV, isNoneD, negV, SeqAt.shaped, ev_ii, ev_bb, ev_ss, ev_tt, ev_ll, PyData.eqvAll, PyData.canLay0, PyData.canLayAll0, PyData.depth, PyData.depthAll, ix_of at2]
    by_cases hb : (cs.length : Int) ≤ at_ ∨ c < 1000000000000000000
    · have mm := fmodB (a := ((((c.fmod 999979 + at_ * at_ * 307 + at_ * 53 + 17).fmod 999979) * ((c.fmod 999979 + at_ * at_ * 307 + at_ * 53 + 17).fmod 999979) * 5 + ((c.fmod 999979 + at_ * at_ * 307 + at_ * 53 + 17).fmod 999979) * 11 + at_).fmod 2147483629 * 69621).fmod 2147483647) (m := (many : Int)) (by omega)
      obtain ⟨d, hd, hdl⟩ := nat_of mm.1 mm.2
      refine ⟨d, [.list (cs.map PyData.int), .int (at_ + 1), .int 0], ?_, hdl, cs, at_ + 1, 0, rfl, by omega, by omega⟩
      have p1 := fmodB (a := c.fmod 999979 + at_ * at_ * 307 + at_ * 53 + 17) (m := 999979) (by decide)
      generalize hq1 : (c.fmod 999979 + at_ * at_ * 307 + at_ * 53 + 17).fmod 999979 = q1 at p1 hd mm
      have p2 := fmodB (a := q1 * q1 * 5 + q1 * 11 + at_) (m := 2147483629) (by decide)
      generalize hq2 : (q1 * q1 * 5 + q1 * 11 + at_).fmod 2147483629 = q2 at p2 hd mm
      have hmn : (many : Int) ≠ 0 := by omega
      have hmn' : many ≠ 0 := by omega
      have s5 : evS (callN P n) (lentIn P) (nthS drIn 5) [.io [.list (cs.map PyData.int), .int (at_ + 1), .int 0], .fz (.int many), .fz (.list (cs.map PyData.int)), .fz (.int at_), .fz (.int c), .un, .un, .un] = .ok (.ret (.d (.int d)) [.io [.list (cs.map PyData.int), .int (at_ + 1), .int 0], .fz (.int many), .fz (.list (cs.map PyData.int)), .fz (.int at_), .fz (.int c), .fz (.int q1), .fz (.int q2), .un]) := by
        have i1 : In64 at_ := by unfold In64; omega
        have ht : evT (callN P n) (lentIn P) (.or (.val (.cmp .GtE (.nm 3) (.bi .len (.cons (.nm 2) .nil)))) (.val (.cmp .Lt (.nm 4) (.bin .Pow (.c (.int (10))) (.c (.int (18))))))) [.io [.list (cs.map PyData.int), .int (at_ + 1), .int 0], .fz (.int many), .fz (.list (cs.map PyData.int)), .fz (.int at_), .fz (.int c), .un, .un, .un] = .ok (true, [.io [.list (cs.map PyData.int), .int (at_ + 1), .int 0], .fz (.int many), .fz (.list (cs.map PyData.int)), .fz (.int at_), .fz (.int c), .un, .un, .un]) := by
          by_cases ha : (cs.length : Int) ≤ at_
          · simp [opd, twoD, oneD, settle, look, slotD, alias1, aliasL, lookL, asInt, asBool, fits, sizeLine, binV, cmpV, truthD, slV, biV, isTy, runF, startE, argsFit, lentBack, handBack, store_if, storeN_if, storeV, change, isOwn, io_fz, io_un, io_ow, io_io, ixL, augI, augV, callV, handOver, lentAt, shownAt, putBack, Res.need, slot, immV, isNoneD, negV, SeqAt.shaped, ev_ii, ev_bb, ev_ss, ev_tt, ev_ll, PyData.eqvAll, PyData.canLay0, PyData.canLayAll0, PyData.depth, PyData.depthAll, biV, ha]
          · have hc2 := hb.resolve_left ha
            simp [opd, twoD, oneD, settle, look, slotD, alias1, aliasL, lookL, asInt, asBool, fits, sizeLine, binV, cmpV, truthD, slV, biV, isTy, runF, startE, argsFit, lentBack, handBack, store_if, storeN_if, storeV, change, isOwn, io_fz, io_un, io_ow, io_io, ixL, augI, augV, callV, handOver, lentAt, shownAt, putBack, Res.need, slot, immV, isNoneD, negV, SeqAt.shaped, ev_ii, ev_bb, ev_ss, ev_tt, ev_ll, PyData.eqvAll, PyData.canLay0, PyData.canLayAll0, PyData.depth, PyData.depthAll, biV, ha, hc2]
        have b0 : evS (callN P n) (lentIn P) (.asg 5 false (.bin .Mod (.bi .int (.cons (.bin .Add (.bin .Add (.bin .Add (.bin .Mod (.bi .int (.cons (.nm 4) .nil)) (.c (.int (999979)))) (.bin .Mult (.bin .Mult (.nm 3) (.nm 3)) (.c (.int (307))))) (.bin .Mult (.nm 3) (.c (.int (53))))) (.c (.int (17)))) .nil)) (.c (.int (999979))))) [.io [.list (cs.map PyData.int), .int (at_ + 1), .int 0], .fz (.int many), .fz (.list (cs.map PyData.int)), .fz (.int at_), .fz (.int c), .un, .un, .un] = .ok (.nx [.io [.list (cs.map PyData.int), .int (at_ + 1), .int 0], .fz (.int many), .fz (.list (cs.map PyData.int)), .fz (.int at_), .fz (.int c), .fz (.int q1), .un, .un]) := by
          simp [opd, twoD, oneD, settle, look, slotD, alias1, aliasL, lookL, asInt, asBool, fits, sizeLine, binV, cmpV, truthD, slV, biV, isTy, runF, startE, argsFit, lentBack, handBack, store_if, storeN_if, storeV, change, isOwn, io_fz, io_un, io_ow, io_io, ixL, augI, augV, callV, handOver, lentAt, shownAt, putBack, Res.need, slot, immV, isNoneD, negV, SeqAt.shaped, ev_ii, ev_bb, ev_ss, ev_tt, ev_ll, PyData.eqvAll, PyData.canLay0, PyData.canLayAll0, PyData.depth, PyData.depthAll, -in64_is, biV, i1, show In64 307 from by decide, show In64 53 from by decide, hq1]
        have b1 : evS (callN P n) (lentIn P) (.asg 6 false (.bin .Mod (.bi .int (.cons (.bin .Add (.bin .Add (.bin .Mult (.bin .Mult (.nm 5) (.nm 5)) (.c (.int (5)))) (.bin .Mult (.nm 5) (.c (.int (11))))) (.nm 3)) .nil)) (.c (.int (2147483629))))) [.io [.list (cs.map PyData.int), .int (at_ + 1), .int 0], .fz (.int many), .fz (.list (cs.map PyData.int)), .fz (.int at_), .fz (.int c), .fz (.int q1), .un, .un] = .ok (.nx [.io [.list (cs.map PyData.int), .int (at_ + 1), .int 0], .fz (.int many), .fz (.list (cs.map PyData.int)), .fz (.int at_), .fz (.int c), .fz (.int q1), .fz (.int q2), .un]) := by
          have i2 : In64 q1 := by unfold In64; omega
          simp [opd, twoD, oneD, settle, look, slotD, alias1, aliasL, lookL, asInt, asBool, fits, sizeLine, binV, cmpV, truthD, slV, biV, isTy, runF, startE, argsFit, lentBack, handBack, store_if, storeN_if, storeV, change, isOwn, io_fz, io_un, io_ow, io_io, ixL, augI, augV, callV, handOver, lentAt, shownAt, putBack, Res.need, slot, immV, isNoneD, negV, SeqAt.shaped, ev_ii, ev_bb, ev_ss, ev_tt, ev_ll, PyData.eqvAll, PyData.canLay0, PyData.canLayAll0, PyData.depth, PyData.depthAll, -in64_is, biV, i2, show In64 5 from by decide, show In64 11 from by decide, hq2]
        have b2 : evS (callN P n) (lentIn P) (.ret (.bin .Mod (.bi .int (.cons (.bin .Mod (.bi .int (.cons (.bin .Mult (.nm 6) (.c (.int (69621)))) .nil)) (.c (.int (2147483647)))) .nil)) (.nm 1))) [.io [.list (cs.map PyData.int), .int (at_ + 1), .int 0], .fz (.int many), .fz (.list (cs.map PyData.int)), .fz (.int at_), .fz (.int c), .fz (.int q1), .fz (.int q2), .un] = .ok (.ret (.d (.int d)) [.io [.list (cs.map PyData.int), .int (at_ + 1), .int 0], .fz (.int many), .fz (.list (cs.map PyData.int)), .fz (.int at_), .fz (.int c), .fz (.int q1), .fz (.int q2), .un]) := by
          simp [opd, twoD, oneD, settle, look, slotD, alias1, aliasL, lookL, asInt, asBool, fits, sizeLine, binV, cmpV, truthD, slV, biV, isTy, runF, startE, argsFit, lentBack, handBack, store_if, storeN_if, storeV, change, isOwn, io_fz, io_un, io_ow, io_io, ixL, augI, augV, callV, handOver, lentAt, shownAt, putBack, Res.need, slot, immV, isNoneD, negV, SeqAt.shaped, ev_ii, ev_bb, ev_ss, ev_tt, ev_ll, PyData.eqvAll, PyData.canLay0, PyData.canLayAll0, PyData.depth, PyData.depthAll, -in64_is, biV, show In64 69621 from by decide, hmn, hmn', hd]
        have e5 : nthS drIn 5 = .ife (.or (.val (.cmp .GtE (.nm 3) (.bi .len (.cons (.nm 2) .nil)))) (.val (.cmp .Lt (.nm 4) (.bin .Pow (.c (.int (10))) (.c (.int (18))))))) (.cons (.asg 5 false (.bin .Mod (.bi .int (.cons (.bin .Add (.bin .Add (.bin .Add (.bin .Mod (.bi .int (.cons (.nm 4) .nil)) (.c (.int (999979)))) (.bin .Mult (.bin .Mult (.nm 3) (.nm 3)) (.c (.int (307))))) (.bin .Mult (.nm 3) (.c (.int (53))))) (.c (.int (17)))) .nil)) (.c (.int (999979))))) (.cons (.asg 6 false (.bin .Mod (.bi .int (.cons (.bin .Add (.bin .Add (.bin .Mult (.bin .Mult (.nm 5) (.nm 5)) (.c (.int (5)))) (.bin .Mult (.nm 5) (.c (.int (11))))) (.nm 3)) .nil)) (.c (.int (2147483629))))) (.cons (.ret (.bin .Mod (.bi .int (.cons (.bin .Mod (.bi .int (.cons (.bin .Mult (.nm 6) (.c (.int (69621)))) .nil)) (.c (.int (2147483647)))) .nil)) (.nm 1))) .nil))) .nil := rfl
        rw [e5, x_S_ife, ht, bind_ok]
        exact (ss_nx b0).trans ((ss_nx b1).trans (ss_ret b2))
      refine call_ret (fd := f__law_drawn) (v := .d (.int d)) (ρ1 := [.io [.list (cs.map PyData.int), .int (at_ + 1), .int 0], .fz (.int many), .fz (.list (cs.map PyData.int)), .fz (.int at_), .fz (.int c), .fz (.int q1), .fz (.int q2), .un]) rfl ⟨rfl, rfl⟩ (?_ : evSs (callN P n) (lentIn P) f__law_drawn.body [.io [.list (cs.map PyData.int), .int at_, .int 0], .fz (.int many), .un, .un, .un, .un, .un, .un] = _) rfl rfl
      rw [eb]
      refine ss_ret ?_
      have e0 : nthS f__law_drawn.body 0 = .ife (.val (.cmp .Eq (.ix (.nm 0) (.c (.int (2)))) (.c (.int (0))))) drIn .nil := rfl
      rw [e0, x_S_ife, t0, bind_ok]
      exact five _ (ss_ret s5)
    · have ha : ¬ (cs.length : Int) ≤ at_ := fun z => hb (.inl z)
      have hc2 : ¬ c < 1000000000000000000 := fun z => hb (.inr z)
      obtain ⟨cur', er⟩ := dr_rest (callN P n) (lentIn P) (cs.map PyData.int) (at_ + 1) c many (.fz (.list (cs.map PyData.int))) (.fz (.int at_)) (.fz (.int c)) .un .un .un rfl (by omega) (by omega)
      have mm := fmodB (a := c) (m := (many : Int)) (by omega)
      obtain ⟨d, hd, hdl⟩ := nat_of mm.1 mm.2
      rw [hd] at er
      refine ⟨d, [.list (cs.map PyData.int), .int (at_ + 1), .int cur'], ?_, hdl, cs, at_ + 1, cur', rfl, by omega, by omega⟩
      have s5 : evS (callN P n) (lentIn P) (nthS drIn 5) [.io [.list (cs.map PyData.int), .int (at_ + 1), .int 0], .fz (.int many), .fz (.list (cs.map PyData.int)), .fz (.int at_), .fz (.int c), .un, .un, .un] = .ok (.nx [.io [.list (cs.map PyData.int), .int (at_ + 1), .int 0], .fz (.int many), .fz (.list (cs.map PyData.int)), .fz (.int at_), .fz (.int c), .un, .un, .un]) := by
        simp [opd, twoD, oneD, settle, look, slotD, alias1, aliasL, lookL, asInt, asBool, fits, sizeLine, binV, cmpV, truthD, slV, biV, isTy, runF, startE, argsFit, lentBack, handBack, store_if, storeN_if, storeV, change, isOwn, io_fz, io_un, io_ow, io_io, ixL, augI, augV, callV, handOver, lentAt, shownAt, putBack, Res.need, slot, immV, isNoneD, negV, SeqAt.shaped, ev_ii, ev_bb, ev_ss, ev_tt, ev_ll, PyData.eqvAll, PyData.canLay0, PyData.canLayAll0, PyData.depth, PyData.depthAll, nthS, drIn, f__law_drawn, biV, ha, hc2]
      have s6 : evS (callN P n) (lentIn P) (nthS drIn 6) [.io [.list (cs.map PyData.int), .int (at_ + 1), .int 0], .fz (.int many), .fz (.list (cs.map PyData.int)), .fz (.int at_), .fz (.int c), .un, .un, .un] = .ok (.nx [.io [.list (cs.map PyData.int), .int (at_ + 1), .int c], .fz (.int many), .fz (.list (cs.map PyData.int)), .fz (.int at_), .fz (.int c), .un, .un, .un]) := by
        simp [opd, twoD, oneD, settle, look, slotD, alias1, aliasL, lookL, asInt, asBool, fits, sizeLine, binV, cmpV, truthD, slV, biV, isTy, runF, startE, argsFit, lentBack, handBack, store_if, storeN_if, storeV, change, isOwn, io_fz, io_un, io_ow, io_io, ixL, augI, augV, callV, handOver, lentAt, shownAt, putBack, Res.need, slot, immV, isNoneD, negV, SeqAt.shaped, ev_ii, ev_bb, ev_ss, ev_tt, ev_ll, PyData.eqvAll, PyData.canLay0, PyData.canLayAll0, PyData.depth, PyData.depthAll, nthS, drIn, f__law_drawn, set2]
      refine call_ret (fd := f__law_drawn) (v := .d (.int d)) (ρ1 := [.io [.list (cs.map PyData.int), .int (at_ + 1), .int cur'], .fz (.int many), .fz (.list (cs.map PyData.int)), .fz (.int at_), .fz (.int c), .un, .un, .fz (.int d)]) rfl ⟨rfl, rfl⟩ (?_ : evSs (callN P n) (lentIn P) f__law_drawn.body [.io [.list (cs.map PyData.int), .int at_, .int 0], .fz (.int many), .un, .un, .un, .un, .un, .un] = _) rfl rfl
      rw [eb]
      refine (ss_nx ?_).trans er
      have e0 : nthS f__law_drawn.body 0 = .ife (.val (.cmp .Eq (.ix (.nm 0) (.c (.int (2)))) (.c (.int (0))))) drIn .nil := rfl
      rw [e0, x_S_ife, t0, bind_ok]
      exact five _ ((ss_nx s5).trans ((ss_nx s6).trans rfl))
  · obtain ⟨cur', er⟩ := dr_rest (callN P n) (lentIn P) (cs.map PyData.int) at_ cur many .un .un .un .un .un .un rfl (by omega) (by omega)
    have mm := fmodB (a := cur) (m := (many : Int)) (by omega)
    obtain ⟨d, hd, hdl⟩ := nat_of mm.1 mm.2
    rw [hd] at er
    refine ⟨d, [.list (cs.map PyData.int), .int at_, .int cur'], ?_, hdl, cs, at_, cur', rfl, by omega, by omega⟩
    have s1 : evS (callN P n) (lentIn P) (nthS f__law_drawn.body 0) [.io [.list (cs.map PyData.int), .int at_, .int cur], .fz (.int many), .un, .un, .un, .un, .un, .un] = .ok (.nx [.io [.list (cs.map PyData.int), .int at_, .int cur], .fz (.int many), .un, .un, .un, .un, .un, .un]) := by
      simp [opd, twoD, oneD, settle, look, slotD, alias1, aliasL, lookL, asInt, asBool, fits, sizeLine, binV, cmpV, truthD, slV, biV, isTy, runF, startE, argsFit, lentBack, handBack, store_if, storeN_if, storeV, change, isOwn, io_fz, io_un, io_ow, io_io, ixL, augI, augV, callV, handOver, lentAt, shownAt, putBack, Res.need, slot, immV, isNoneD, negV, SeqAt.shaped, ev_ii, ev_bb, ev_ss, ev_tt, ev_ll, PyData.eqvAll, PyData.canLay0, PyData.canLayAll0, PyData.depth, PyData.depthAll, nthS, f__law_drawn, ix_of at2, hc]
    refine call_ret (fd := f__law_drawn) (v := .d (.int d)) (ρ1 := [.io [.list (cs.map PyData.int), .int at_, .int cur'], .fz (.int many), .un, .un, .un, .un, .un, .fz (.int d)]) rfl ⟨rfl, rfl⟩ (?_ : evSs (callN P n) (lentIn P) f__law_drawn.body [.io [.list (cs.map PyData.int), .int at_, .int cur], .fz (.int many), .un, .un, .un, .un, .un, .un] = _) rfl rfl
    rw [eb]
    exact (ss_nx s1).trans er
end PX
namespace PX
open PySem PySem.Spec PyProof.Rows L2
theorem asInts_some : ∀ {xs : List D} {ns : List Int}, asInts xs = some ns → xs = ns.map PyData.int
  | [], ns, h => by cases h; rfl
  | .int i :: xs, ns, h => by
    have h : (asInts xs).map (i :: ·) = some ns := h
    cases hx : asInts xs with
    | none => rw [hx] at h; cases h
    | some ms =>
      rw [hx] at h
      cases h
      rw [asInts_some hx]
      rfl
  | .none :: _, _, h => by cases h
  | .bool _ :: _, _, h => by cases h
  | .str _ :: _, _, h => by cases h
  | .list _ :: _, _, h => by cases h
  | .tuple _ :: _, _, h => by cases h
  | .dict _ :: _, _, h => by cases h
def intB (d : D) : Bool := isTy .int d && !isTy .bool d
theorem asInts_iff : ∀ xs : List D, (asInts xs).isSome = xs.all intB
  | [] => rfl
  | x :: xs => by
    have ih := asInts_iff xs
    cases x with
    | int i =>
      show ((asInts xs).map (i :: ·)).isSome = _
      rw [Option.isSome_map, ih]
      rfl
    | _ => rfl
def setB (m : Int) : D → Bool
  | .tuple xs => match asInts xs with
    | some ns => (ns == setZ ns) && ns.all fun i => decide (0 ≤ i) && decide (i < m)
    | none => false
  | _ => false
theorem setZ_lt (ns : List Int) : (setZ ns).Pairwise (· < ·) := sortZ_lt (dedupZ_nodup ns)
theorem setZ_eq {ns : List Int} : ns = setZ ns ↔ ns.Pairwise (· < ·) := by
  constructor
  · intro h
    rw [h]
    exact setZ_lt ns
  · intro h
    have hp : ns.Perm (dedupZ ns) := perm_of_mem (lt_nodup h) (dedupZ_nodup ns) fun k => (dedupZ_mem ns k).symm
    exact List.Perm.eq_of_pairwise (fun x y _ _ h1 h2 => Int.le_antisymm h1 h2) (h.imp fun h => by omega) (sortZ_le _) (hp.trans (sortZ_perm _).symm)
theorem zip_pw : ∀ {ns : List Int}, ((ns.map PyData.int).zip (ns.map PyData.int).tail).all (fun p => ltD p.1 p.2) = true → ns.Pairwise (· < ·)
  | [], _ => List.Pairwise.nil
  | [_], _ => List.pairwise_singleton _ _
  | a :: b :: ns, h => by
    simp only [List.map_cons, List.tail_cons, List.zip_cons_cons, List.all_cons, Bool.and_eq_true] at h
    have hab : a < b := by simpa [ltD] using h.1
    have ih : (b :: ns).Pairwise (· < ·) := zip_pw (by simpa using h.2)
    refine List.pairwise_cons.mpr ⟨fun c hc => ?_, ih⟩
    rcases List.mem_cons.mp hc with rfl | hc
    · exact hab
    · have := (List.pairwise_cons.mp ih).1 c hc
      omega
theorem last_ge : ∀ {ns : List Int} {l : Int}, ns.Pairwise (· < ·) → ns.getLast? = some l → ∀ i ∈ ns, i ≤ l
  | [], _, _, h, _, _ => by cases h
  | [a], l, _, h, i, hi => by
    cases h
    rw [List.mem_singleton.mp hi]
    exact Int.le_refl _
  | a :: b :: ns, l, hp, h, i, hi => by
    rw [List.getLast?_cons_cons] at h
    have hp' := List.pairwise_cons.mp hp
    have ih := last_ge hp'.2 h
    rcases List.mem_cons.mp hi with rfl | hi
    · have h1 := hp'.1 b List.mem_cons_self
      have h2 := ih b List.mem_cons_self
      omega
    · exact ih i hi
theorem set_below (m : Int) (d : D) : (isSetD d && rowOk d (.int m)) = setB m d := by
  cases d with
  | tuple xs =>
    cases hx : asInts xs with
    | none =>
      have h1 := asInts_iff xs
      rw [hx] at h1
      have h2 : xs.all isNat_ = false := by
        cases hn : xs.all isNat_ with
        | false => rfl
        | true =>
          have : xs.all intB = true := List.all_eq_true.mpr fun d hd => by
            obtain ⟨i, rfl, _⟩ := nats_int hn hd
            rfl
          rw [this] at h1
          cases h1
      simp [opd, twoD, oneD, settle, look, slotD, alias1, aliasL, lookL, asInt, asBool, fits, sizeLine, binV, cmpV, truthD, slV, biV, isTy, runF, startE, argsFit, lentBack, handBack, store_if, storeN_if, storeV, change, isOwn, io_fz, io_un, io_ow, io_io, ixL, augI, augV, callV, handOver, lentAt, shownAt, putBack, Res.need, slot, immV, isNoneD, negV, SeqAt.shaped, ev_ii, ev_bb, ev_ss, ev_tt, ev_ll, PyData.eqvAll, PyData.canLay0, PyData.canLayAll0, PyData.depth, PyData.depthAll, isSetD, setB, hx, h2]
    | some ns =>
      have := asInts_some hx
      subst this
      rw [Bool.eq_iff_iff]
      simp only [setB, hx, Bool.and_eq_true, isSetD, rowOk]
      constructor
      · rintro ⟨⟨h1, h2⟩, h3⟩
        have hp := zip_pw h2
        refine ⟨beq_iff_eq.mpr (setZ_eq.mpr hp), List.all_eq_true.mpr fun i hi => ?_⟩
        have h4 := List.all_eq_true.mp h1 _ (List.mem_map_of_mem hi)
        have h5 : 0 ≤ i := by simpa [isNat_] using h4
        cases hl : ns.getLast? with
        | none => rw [List.getLast?_eq_none_iff] at hl; subst hl; cases hi
        | some l =>
          have h6 := last_ge hp hl i hi
          have hne : (ns.map PyData.int).isEmpty = false := by cases ns <;> first | cases hi; done | rfl
          rw [hne, List.getLast?_map, hl] at h3
          have h7 : l < m := by simpa [ltD] using h3
          simp [opd, twoD, oneD, settle, look, slotD, alias1, aliasL, lookL, asInt, asBool, fits, sizeLine, binV, cmpV, truthD, slV, biV, isTy, runF, startE, argsFit, lentBack, handBack, store_if, storeN_if, storeV, change, isOwn, io_fz, io_un, io_ow, io_io, ixL, augI, augV, callV, handOver, lentAt, shownAt, putBack, Res.need, slot, immV, isNoneD, negV, SeqAt.shaped, ev_ii, ev_bb, ev_ss, ev_tt, ev_ll, PyData.eqvAll, PyData.canLay0, PyData.canLayAll0, PyData.depth, PyData.depthAll, h5]
          omega
      · rintro ⟨h1, h2⟩
        have hp := setZ_eq.mp (beq_iff_eq.mp h1)
        have hb : ∀ i ∈ ns, 0 ≤ i ∧ i < m := fun i hi => by simpa using List.all_eq_true.mp h2 i hi
        refine ⟨⟨List.all_eq_true.mpr fun d hd => ?_, asc_zip hp⟩, ?_⟩
        · obtain ⟨i, hi, rfl⟩ := List.mem_map.mp hd
          simp [opd, twoD, oneD, settle, look, slotD, alias1, aliasL, lookL, asInt, asBool, fits, sizeLine, binV, cmpV, truthD, slV, biV, isTy, runF, startE, argsFit, lentBack, handBack, store_if, storeN_if, storeV, change, isOwn, io_fz, io_un, io_ow, io_io, ixL, augI, augV, callV, handOver, lentAt, shownAt, putBack, Res.need, slot, immV, isNoneD, negV, SeqAt.shaped, ev_ii, ev_bb, ev_ss, ev_tt, ev_ll, PyData.eqvAll, PyData.canLay0, PyData.canLayAll0, PyData.depth, PyData.depthAll, isNat_, (hb i hi).1]
        · cases hl : ns.getLast? with
          | none => rw [List.getLast?_eq_none_iff] at hl; subst hl; rfl
          | some l =>
            have := (hb l (List.mem_of_getLast? hl)).2
            rw [List.getLast?_map, hl]
            simp [opd, twoD, oneD, settle, look, slotD, alias1, aliasL, lookL, asInt, asBool, fits, sizeLine, binV, cmpV, truthD, slV, biV, isTy, runF, startE, argsFit, lentBack, handBack, store_if, storeN_if, storeV, change, isOwn, io_fz, io_un, io_ow, io_io, ixL, augI, augV, callV, handOver, lentAt, shownAt, putBack, Res.need, slot, immV, isNoneD, negV, SeqAt.shaped, ev_ii, ev_bb, ev_ss, ev_tt, ev_ll, PyData.eqvAll, PyData.canLay0, PyData.canLayAll0, PyData.depth, PyData.depthAll, ltD, this]
  | _ => simp [opd, twoD, oneD, settle, look, slotD, alias1, aliasL, lookL, asInt, asBool, fits, sizeLine, binV, cmpV, truthD, slV, biV, isTy, runF, startE, argsFit, lentBack, handBack, store_if, storeN_if, storeV, change, isOwn, io_fz, io_un, io_ow, io_io, ixL, augI, augV, callV, handOver, lentAt, shownAt, putBack, Res.need, slot, immV, isNoneD, negV, SeqAt.shaped, ev_ii, ev_bb, ev_ss, ev_tt, ev_ll, PyData.eqvAll, PyData.canLay0, PyData.canLayAll0, PyData.depth, PyData.depthAll, isSetD, setB]
theorem c_is_set_below (n : Nat) (d : D) (m : Int) : callN P (n + 5) "is_set_below" [.fz d, .fz (.int m)] = .ok (.d (.bool (setB m d)), []) := by
  rw [← set_below, call_at (fd := f_is_set_below) rfl]
  cases hs : isSetD d with
  | false => simp [opd, twoD, oneD, settle, look, slotD, alias1, aliasL, lookL, asInt, asBool, fits, sizeLine, binV, cmpV, truthD, slV, biV, isTy, runF, startE, argsFit, lentBack, handBack, store_if, storeN_if, storeV, change, isOwn, io_fz, io_un, io_ow, io_io, ixL, augI, augV, callV, handOver, lentAt, shownAt, putBack, Res.need, slot, immV, isNoneD, negV, SeqAt.shaped, ev_ii, ev_bb, ev_ss, ev_tt, ev_ll, PyData.eqvAll, PyData.canLay0, PyData.canLayAll0, PyData.depth, PyData.depthAll, f_is_set_below, l_is_set, c_is_set, hs]
  | true =>
    cases d with
    | tuple xs =>
      have hn : xs.all isNat_ = true := by
        simp only [isSetD, Bool.and_eq_true] at hs
        exact hs.1
      obtain ⟨h1, h2⟩ := shaped_nats hn
      cases xs with
      | nil => simp [opd, twoD, oneD, settle, look, slotD, alias1, aliasL, lookL, asInt, asBool, fits, sizeLine, binV, cmpV, truthD, slV, biV, isTy, runF, startE, argsFit, lentBack, handBack, store_if, storeN_if, storeV, change, isOwn, io_fz, io_un, io_ow, io_io, ixL, augI, augV, callV, handOver, lentAt, shownAt, putBack, Res.need, slot, immV, isNoneD, negV, SeqAt.shaped, ev_ii, ev_bb, ev_ss, ev_tt, ev_ll, PyData.eqvAll, PyData.canLay0, PyData.canLayAll0, PyData.depth, PyData.depthAll, f_is_set_below, l_is_set, c_is_set, hs, rowOk]
      | cons x xs =>
        obtain ⟨l, hl⟩ : ∃ l, (x :: xs).getLast? = some l := ⟨_, List.getLast?_eq_some_getLast (by simp [opd, twoD, oneD, settle, look, slotD, alias1, aliasL, lookL, asInt, asBool, fits, sizeLine, binV, cmpV, truthD, slV, biV, isTy, runF, startE, argsFit, lentBack, handBack, store_if, storeN_if, storeV, change, isOwn, io_fz, io_un, io_ow, io_io, ixL, augI, augV, callV, handOver, lentAt, shownAt, putBack, Res.need, slot, immV, isNoneD, negV, SeqAt.shaped, ev_ii, ev_bb, ev_ss, ev_tt, ev_ll, PyData.eqvAll, PyData.canLay0, PyData.canLayAll0, PyData.depth, PyData.depthAll])⟩
        have hlm : l ∈ x :: xs := List.mem_of_getLast? hl
        obtain ⟨j, rfl, _⟩ := nats_int hn hlm
        have hat := (at_last (xs := x :: xs) (by simp [opd, twoD, oneD, settle, look, slotD, alias1, aliasL, lookL, asInt, asBool, fits, sizeLine, binV, cmpV, truthD, slV, biV, isTy, runF, startE, argsFit, lentBack, handBack, store_if, storeN_if, storeV, change, isOwn, io_fz, io_un, io_ow, io_io, ixL, augI, augV, callV, handOver, lentAt, shownAt, putBack, Res.need, slot, immV, isNoneD, negV, SeqAt.shaped, ev_ii, ev_bb, ev_ss, ev_tt, ev_ll, PyData.eqvAll, PyData.canLay0, PyData.canLayAll0, PyData.depth, PyData.depthAll])).trans hl
        simp only [PyData.canLayAll0, PyData.depthAll, Bool.and_eq_true] at h1 h2
        have h2' : max (PyData.depth x) (PyData.depthAll xs) = 0 := h2
        have hx : PyData.depth x = 0 := by omega
        have hxs : PyData.depthAll xs = 0 := by omega
        simp [opd, twoD, oneD, settle, look, slotD, alias1, aliasL, lookL, asInt, asBool, fits, sizeLine, binV, cmpV, truthD, slV, biV, isTy, runF, startE, argsFit, lentBack, handBack, store_if, storeN_if, storeV, change, isOwn, io_fz, io_un, io_ow, io_io, ixL, augI, augV, callV, handOver, lentAt, shownAt, putBack, Res.need, slot, immV, isNoneD, negV, SeqAt.shaped, ev_ii, ev_bb, ev_ss, ev_tt, ev_ll, PyData.eqvAll, PyData.canLay0, PyData.canLayAll0, PyData.depth, PyData.depthAll, f_is_set_below, l_is_set, c_is_set, hs, rowOk, hl, ixV, hat, ltD, h1.1, h1.2, hx, hxs]
    | _ => simp [opd, twoD, oneD, settle, look, slotD, alias1, aliasL, lookL, asInt, asBool, fits, sizeLine, binV, cmpV, truthD, slV, biV, isTy, runF, startE, argsFit, lentBack, handBack, store_if, storeN_if, storeV, change, isOwn, io_fz, io_un, io_ow, io_io, ixL, augI, augV, callV, handOver, lentAt, shownAt, putBack, Res.need, slot, immV, isNoneD, negV, SeqAt.shaped, ev_ii, ev_bb, ev_ss, ev_tt, ev_ll, PyData.eqvAll, PyData.canLay0, PyData.canLayAll0, PyData.depth, PyData.depthAll, isSetD] at hs
def Sh (xs : List D) : Prop := PyData.canLayAll0 xs = true ∧ PyData.depthAll xs ≤ 60
theorem Sh.filter (p : D → Bool) : ∀ {xs : List D}, Sh xs → Sh (xs.filter p)
  | [], h => h
  | x :: xs, h => by
    obtain ⟨h1, h2⟩ := h
    simp only [PyData.canLayAll0, Bool.and_eq_true] at h1
    have h2 : max (PyData.depth x) (PyData.depthAll xs) ≤ 60 := h2
    obtain ⟨i1, i2⟩ := Sh.filter p (xs := xs) ⟨h1.2, by omega⟩
    rw [List.filter_cons]
    split
    · refine ⟨?_, ?_⟩
      · show (PyData.canLay0 x && PyData.canLayAll0 (xs.filter p)) = true
        rw [h1.1, i1]
        rfl
      · show max (PyData.depth x) (PyData.depthAll (xs.filter p)) ≤ 60
        omega
    · exact ⟨i1, i2⟩
theorem Sh.ints (ns : List Int) : Sh (ns.map PyData.int) := ⟨canL_ints ns, by rw [depL_ints]; omega⟩
theorem c_law_is_set (n : Nat) (d : D) (m : Int) (hd : ∀ xs, d = .tuple xs → Sh xs ∧ xs.length < 64) : callN P (n + 1) "_law_is_set" [.fz d, .fz (.int m)] = .ok (.d (.bool (setB m d)), []) := by
  cases d with
  | tuple xs =>
    obtain ⟨hsh, hlen⟩ := hd xs rfl
    have hT := turns_filterG (tg := .nm 2) (own := [2]) (ρ := [.fz (.tuple xs), .fz (.int m), .un]) (test := cT (callN P n) (lentIn P) (.or (.not (.val (.isi (.nm 2) .int))) (.val (.isi (.nm 2) .bool)))) (elt := cE (callN P n) (lentIn P) (.nm 2))
      (ys := xs) (acc := []) id (fun x => !intB x) id fun x _ => ⟨[.fz (.tuple xs), .fz (.int m), .fz x], by simp [opd, twoD, oneD, settle, look, slotD, alias1, aliasL, lookL, asInt, asBool, fits, sizeLine, binV, cmpV, truthD, slV, biV, isTy, runF, startE, argsFit, lentBack, handBack, store_if, storeN_if, storeV, change, isOwn, io_fz, io_un, io_ow, io_io, ixL, augI, augV, callV, handOver, lentAt, shownAt, putBack, Res.need, slot, immV, isNoneD, negV, SeqAt.shaped, ev_ii, ev_bb, ev_ss, ev_tt, ev_ll, PyData.eqvAll, PyData.canLay0, PyData.canLayAll0, PyData.depth, PyData.depthAll, storeTg], by cases x <;> simp [opd, twoD, oneD, settle, look, slotD, alias1, aliasL, lookL, asInt, asBool, fits, sizeLine, binV, cmpV, truthD, slV, biV, isTy, runF, startE, argsFit, lentBack, handBack, store_if, storeN_if, storeV, change, isOwn, io_fz, io_un, io_ow, io_io, ixL, augI, augV, callV, handOver, lentAt, shownAt, putBack, Res.need, slot, immV, isNoneD, negV, SeqAt.shaped, ev_ii, ev_bb, ev_ss, ev_tt, ev_ll, PyData.eqvAll, PyData.canLay0, PyData.canLayAll0, PyData.depth, PyData.depthAll, intB], fun _ => by simp [opd, twoD, oneD, settle, look, slotD, alias1, aliasL, lookL, asInt, asBool, fits, sizeLine, binV, cmpV, truthD, slV, biV, isTy, runF, startE, argsFit, lentBack, handBack, store_if, storeN_if, storeV, change, isOwn, io_fz, io_un, io_ow, io_io, ixL, augI, augV, callV, handOver, lentAt, shownAt, putBack, Res.need, slot, immV, isNoneD, negV, SeqAt.shaped, ev_ii, ev_bb, ev_ss, ev_tt, ev_ll, PyData.eqvAll, PyData.canLay0, PyData.canLayAll0, PyData.depth, PyData.depthAll], by simp [opd, twoD, oneD, settle, look, slotD, alias1, aliasL, lookL, asInt, asBool, fits, sizeLine, binV, cmpV, truthD, slV, biV, isTy, runF, startE, argsFit, lentBack, handBack, store_if, storeN_if, storeV, change, isOwn, io_fz, io_un, io_ow, io_io, ixL, augI, augV, callV, handOver, lentAt, shownAt, putBack, Res.need, slot, immV, isNoneD, negV, SeqAt.shaped, ev_ii, ev_bb, ev_ss, ev_tt, ev_ll, PyData.eqvAll, PyData.canLay0, PyData.canLayAll0, PyData.depth, PyData.depthAll, wipeE]⟩
    simp only [List.map_id, List.nil_append] at hT
    have hsf := hsh.filter fun x => !intB x
    have hS : evSrc (callN P n) (lentIn P) (.seq (.nm 0)) [.fz (.tuple xs), .fz (.int m), .un] = .ok (xs, [.fz (.tuple xs), .fz (.int m), .un]) := by simp [opd, twoD, oneD, settle, look, slotD, alias1, aliasL, lookL, asInt, asBool, fits, sizeLine, binV, cmpV, truthD, slV, biV, isTy, runF, startE, argsFit, lentBack, handBack, store_if, storeN_if, storeV, change, isOwn, io_fz, io_un, io_ow, io_io, ixL, augI, augV, callV, handOver, lentAt, shownAt, putBack, Res.need, slot, immV, isNoneD, negV, SeqAt.shaped, ev_ii, ev_bb, ev_ss, ev_tt, ev_ll, PyData.eqvAll, PyData.canLay0, PyData.canLayAll0, PyData.depth, PyData.depthAll, seqOf]
    have hc := compif_run (own := [2]) hS hT
    have hre : restore [.fz (.tuple xs), .fz (.int m), .un] [.fz (.tuple xs), .fz (.int m), .un] [2] = [.fz (.tuple xs), .fz (.int m), .un] := by simp [opd, twoD, oneD, settle, look, slotD, alias1, aliasL, lookL, asInt, asBool, fits, sizeLine, binV, cmpV, truthD, slV, biV, isTy, runF, startE, argsFit, lentBack, handBack, store_if, storeN_if, storeV, change, isOwn, io_fz, io_un, io_ow, io_io, ixL, augI, augV, callV, handOver, lentAt, shownAt, putBack, Res.need, slot, immV, isNoneD, negV, SeqAt.shaped, ev_ii, ev_bb, ev_ss, ev_tt, ev_ll, PyData.eqvAll, PyData.canLay0, PyData.canLayAll0, PyData.depth, PyData.depthAll, restore]
    rw [hre] at hc
    have hd64 : PyData.depthAll (xs.filter fun x => !intB x) ≤ 63 := Nat.le_trans hsf.2 (by decide)
    have ht : evT (callN P n) (lentIn P) (.or (.not (.val (.isi (.nm 0) .tuple))) (.val (.cmp .NotEq (.compif (.nm 2) (.nm 2) (.seq (.nm 0)) (.or (.not (.val (.isi (.nm 2) .int))) (.val (.isi (.nm 2) .bool))) [2]) (.lst .nil)))) [.fz (.tuple xs), .fz (.int m), .un] = .ok (!xs.all intB, [.fz (.tuple xs), .fz (.int m), .un]) := by
      have hemp : (xs.filter fun x => !intB x).isEmpty = xs.all intB := by
        rw [Bool.eq_iff_iff]
        simp [opd, twoD, oneD, settle, look, slotD, alias1, aliasL, lookL, asInt, asBool, fits, sizeLine, binV, cmpV, truthD, slV, biV, isTy, runF, startE, argsFit, lentBack, handBack, store_if, storeN_if, storeV, change, isOwn, io_fz, io_un, io_ow, io_io, ixL, augI, augV, callV, handOver, lentAt, shownAt, putBack, Res.need, slot, immV, isNoneD, negV, SeqAt.shaped, ev_ii, ev_bb, ev_ss, ev_tt, ev_ll, PyData.eqvAll, PyData.canLay0, PyData.canLayAll0, PyData.depth, PyData.depthAll]
      simp [opd, twoD, oneD, settle, look, slotD, alias1, aliasL, lookL, asInt, asBool, fits, sizeLine, binV, cmpV, truthD, slV, biV, isTy, runF, startE, argsFit, lentBack, handBack, store_if, storeN_if, storeV, change, isOwn, io_fz, io_un, io_ow, io_io, ixL, augI, augV, callV, handOver, lentAt, shownAt, putBack, Res.need, slot, immV, isNoneD, negV, SeqAt.shaped, ev_ii, ev_bb, ev_ss, ev_tt, ev_ll, PyData.eqvAll, PyData.canLay0, PyData.canLayAll0, PyData.depth, PyData.depthAll, -x_E_compif, hc, hsf.1, hd64, eqvAll_nil, hemp]
    have e0 : nthS f__law_is_set.body 0 = .ife (.or (.not (.val (.isi (.nm 0) .tuple))) (.val (.cmp .NotEq (.compif (.nm 2) (.nm 2) (.seq (.nm 0)) (.or (.not (.val (.isi (.nm 2) .int))) (.val (.isi (.nm 2) .bool))) [2]) (.lst .nil)))) (.cons (.ret (.c (.bool false))) .nil) .nil := rfl
    have hi := asInts_iff xs
    cases hx : asInts xs with
    | none =>
      rw [hx] at hi
      have hi : xs.all intB = false := hi.symm
      have s0 : evS (callN P n) (lentIn P) (nthS f__law_is_set.body 0) [.fz (.tuple xs), .fz (.int m), .un] = .ok (.ret (.d (.bool false)) [.fz (.tuple xs), .fz (.int m), .un]) := by
        rw [e0, x_S_ife, ht, bind_ok, hi]
        rfl
      exact call_ret (fd := f__law_is_set) rfl ⟨rfl, rfl⟩ (ss_ret s0) rfl (by simp [opd, twoD, oneD, settle, look, slotD, alias1, aliasL, lookL, asInt, asBool, fits, sizeLine, binV, cmpV, truthD, slV, biV, isTy, runF, startE, argsFit, lentBack, handBack, store_if, storeN_if, storeV, change, isOwn, io_fz, io_un, io_ow, io_io, ixL, augI, augV, callV, handOver, lentAt, shownAt, putBack, Res.need, slot, immV, isNoneD, negV, SeqAt.shaped, ev_ii, ev_bb, ev_ss, ev_tt, ev_ll, PyData.eqvAll, PyData.canLay0, PyData.canLayAll0, PyData.depth, PyData.depthAll, handBack, setB, hx])
    | some ns =>
      rw [hx] at hi
      have hi : xs.all intB = true := hi.symm
      have s0 : evS (callN P n) (lentIn P) (nthS f__law_is_set.body 0) [.fz (.tuple xs), .fz (.int m), .un] = .ok (.nx [.fz (.tuple xs), .fz (.int m), .un]) := by
        rw [e0, x_S_ife, ht, bind_ok, hi]
        rfl
      have hxs := asInts_some hx
      subst hxs
      have hlen' : ns.length < 64 := by simpa using hlen
      have hT2 := turns_filterG (tg := .nm 2) (own := [2]) (ρ := [.fz (tI ns), .fz (.int m), .un]) (test := cT (callN P n) (lentIn P) (.not (.val (.chain .LtE .Lt (.c (.int (0))) (.nm 2) (.nm 1))))) (elt := cE (callN P n) (lentIn P) (.nm 2))
        (ys := ns) (acc := []) PyData.int (fun i => !(decide (0 ≤ i) && decide (i < m))) PyData.int fun i _ => ⟨[.fz (tI ns), .fz (.int m), .fz (.int i)], by simp [opd, twoD, oneD, settle, look, slotD, alias1, aliasL, lookL, asInt, asBool, fits, sizeLine, binV, cmpV, truthD, slV, biV, isTy, runF, startE, argsFit, lentBack, handBack, store_if, storeN_if, storeV, change, isOwn, io_fz, io_un, io_ow, io_io, ixL, augI, augV, callV, handOver, lentAt, shownAt, putBack, Res.need, slot, immV, isNoneD, negV, SeqAt.shaped, ev_ii, ev_bb, ev_ss, ev_tt, ev_ll, PyData.eqvAll, PyData.canLay0, PyData.canLayAll0, PyData.depth, PyData.depthAll, storeTg], by by_cases h0 : 0 ≤ i <;> simp [opd, twoD, oneD, settle, look, slotD, alias1, aliasL, lookL, asInt, asBool, fits, sizeLine, binV, cmpV, truthD, slV, biV, isTy, runF, startE, argsFit, lentBack, handBack, store_if, storeN_if, storeV, change, isOwn, io_fz, io_un, io_ow, io_io, ixL, augI, augV, callV, handOver, lentAt, shownAt, putBack, Res.need, slot, immV, isNoneD, negV, SeqAt.shaped, ev_ii, ev_bb, ev_ss, ev_tt, ev_ll, PyData.eqvAll, PyData.canLay0, PyData.canLayAll0, PyData.depth, PyData.depthAll, h0], fun _ => by simp [opd, twoD, oneD, settle, look, slotD, alias1, aliasL, lookL, asInt, asBool, fits, sizeLine, binV, cmpV, truthD, slV, biV, isTy, runF, startE, argsFit, lentBack, handBack, store_if, storeN_if, storeV, change, isOwn, io_fz, io_un, io_ow, io_io, ixL, augI, augV, callV, handOver, lentAt, shownAt, putBack, Res.need, slot, immV, isNoneD, negV, SeqAt.shaped, ev_ii, ev_bb, ev_ss, ev_tt, ev_ll, PyData.eqvAll, PyData.canLay0, PyData.canLayAll0, PyData.depth, PyData.depthAll], by simp [opd, twoD, oneD, settle, look, slotD, alias1, aliasL, lookL, asInt, asBool, fits, sizeLine, binV, cmpV, truthD, slV, biV, isTy, runF, startE, argsFit, lentBack, handBack, store_if, storeN_if, storeV, change, isOwn, io_fz, io_un, io_ow, io_io, ixL, augI, augV, callV, handOver, lentAt, shownAt, putBack, Res.need, slot, immV, isNoneD, negV, SeqAt.shaped, ev_ii, ev_bb, ev_ss, ev_tt, ev_ll, PyData.eqvAll, PyData.canLay0, PyData.canLayAll0, PyData.depth, PyData.depthAll, wipeE]⟩
      rw [List.nil_append] at hT2
      have hc2 := compif_run (own := [2]) hS hT2
      rw [hre] at hc2
      have c1 := canL_ints (ns.filter fun i => !(decide (0 ≤ i) && decide (i < m)))
      have c2 := depL_ints (ns.filter fun i => !(decide (0 ≤ i) && decide (i < m)))
      have c3 := canL_ints ns
      have c4 := depL_ints ns
      have c5 := canL_ints (setZ ns)
      have c6 := depL_ints (setZ ns)
      have hss : evE (callN P n) (lentIn P) (.sortset (.nm 0)) [.fz (tI ns), .fz (.int m), .un] = .ok (.fr ((setZ ns).map PyData.int), [.fz (tI ns), .fz (.int m), .un]) := by
        simp [opd, twoD, oneD, settle, look, slotD, alias1, aliasL, lookL, asInt, asBool, fits, sizeLine, binV, cmpV, truthD, slV, biV, isTy, runF, startE, argsFit, lentBack, handBack, store_if, storeN_if, storeV, change, isOwn, io_fz, io_un, io_ow, io_io, ixL, augI, augV, callV, handOver, lentAt, shownAt, putBack, Res.need, slot, immV, isNoneD, negV, SeqAt.shaped, ev_ii, ev_bb, ev_ss, ev_tt, ev_ll, PyData.eqvAll, PyData.canLay0, PyData.canLayAll0, PyData.depth, PyData.depthAll, sortSetV, hx, hlen']
      have hemp : ((ns.filter fun i => !(decide (0 ≤ i) && decide (i < m))).map PyData.int).isEmpty = ns.all fun i => decide (0 ≤ i) && decide (i < m) := by
        rw [Bool.eq_iff_iff]
        simp [opd, twoD, oneD, settle, look, slotD, alias1, aliasL, lookL, asInt, asBool, fits, sizeLine, binV, cmpV, truthD, slV, biV, isTy, runF, startE, argsFit, lentBack, handBack, store_if, storeN_if, storeV, change, isOwn, io_fz, io_un, io_ow, io_io, ixL, augI, augV, callV, handOver, lentAt, shownAt, putBack, Res.need, slot, immV, isNoneD, negV, SeqAt.shaped, ev_ii, ev_bb, ev_ss, ev_tt, ev_ll, PyData.eqvAll, PyData.canLay0, PyData.canLayAll0, PyData.depth, PyData.depthAll]
      generalize (ns.filter fun i => !(decide (0 ≤ i) && decide (i < m))).map PyData.int = L at c1 c2 hemp hc2
      have hEq : evE (callN P n) (lentIn P) (.cmp .Eq (.bi .list (.cons (.nm 0) .nil)) (.sortset (.nm 0))) [.fz (tI ns), .fz (.int m), .un] = .ok (.d (.bool (ns == setZ ns)), [.fz (tI ns), .fz (.int m), .un]) := by
        have hss' := hss
        simp only [tI] at hss'
        simp [opd, twoD, oneD, settle, look, slotD, alias1, aliasL, lookL, asInt, asBool, fits, sizeLine, binV, cmpV, truthD, slV, biV, isTy, runF, startE, argsFit, lentBack, handBack, store_if, storeN_if, storeV, change, isOwn, io_fz, io_un, io_ow, io_io, ixL, augI, augV, callV, handOver, lentAt, shownAt, putBack, Res.need, slot, immV, isNoneD, negV, SeqAt.shaped, ev_ii, ev_bb, ev_ss, ev_tt, ev_ll, PyData.eqvAll, PyData.canLay0, PyData.canLayAll0, PyData.depth, PyData.depthAll, -x_E_sortset, hss', biV, c3, c4, c5, c6, eqvAll_ints]
      have hEq2 : evE (callN P n) (lentIn P) (.cmp .Eq (.compif (.nm 2) (.nm 2) (.seq (.nm 0)) (.not (.val (.chain .LtE .Lt (.c (.int (0))) (.nm 2) (.nm 1)))) [2]) (.lst .nil)) [.fz (tI ns), .fz (.int m), .un] = .ok (.d (.bool (ns.all fun i => decide (0 ≤ i) && decide (i < m))), [.fz (tI ns), .fz (.int m), .un]) := by
        rw [← hemp, x_E_cmp, hc2]
        unfold twoD opd
        rw [bind_ok, bind_ok]
        simp [opd, twoD, oneD, settle, look, slotD, alias1, aliasL, lookL, asInt, asBool, fits, sizeLine, binV, cmpV, truthD, slV, biV, isTy, runF, startE, argsFit, lentBack, handBack, store_if, storeN_if, storeV, change, isOwn, io_fz, io_un, io_ow, io_io, ixL, augI, augV, callV, handOver, lentAt, shownAt, putBack, Res.need, slot, immV, isNoneD, negV, SeqAt.shaped, ev_ii, ev_bb, ev_ss, ev_tt, ev_ll, PyData.eqvAll, PyData.canLay0, PyData.canLayAll0, PyData.depth, PyData.depthAll, c1, c2, eqvAll_nil]
      have s1 : evS (callN P n) (lentIn P) (nthS f__law_is_set.body 1) [.fz (tI ns), .fz (.int m), .un] = .ok (.ret (.d (.bool (setB m (tI ns)))) [.fz (tI ns), .fz (.int m), .un]) := by
        have e1 : nthS f__law_is_set.body 1 = .ret (.and (.cmp .Eq (.bi .list (.cons (.nm 0) .nil)) (.sortset (.nm 0))) (.cmp .Eq (.compif (.nm 2) (.nm 2) (.seq (.nm 0)) (.not (.val (.chain .LtE .Lt (.c (.int (0))) (.nm 2) (.nm 1)))) [2]) (.lst .nil))) := rfl
        rw [e1, x_S_ret, x_E_and, hEq, bind_ok]
        have hsb : setB m (tI ns) = ((ns == setZ ns) && ns.all fun i => decide (0 ≤ i) && decide (i < m)) := by
          show (match asInts (ns.map PyData.int) with | some ns => _ | none => _) = _
          rw [hx]
        rw [hsb]
        cases hb : (ns == setZ ns) with
        | false => rfl
        | true =>
          show ((Res.need (some true)).bind _).bind _ = _
          rw [need_some, bind_ok, if_pos rfl, hEq2, bind_ok, Bool.true_and]
      exact call_ret (fd := f__law_is_set) rfl ⟨rfl, rfl⟩ ((ss_nx s0).trans (ss_ret s1)) rfl rfl
  | _ => rw [call_at (fd := f__law_is_set) rfl]; simp [opd, twoD, oneD, settle, look, slotD, alias1, aliasL, lookL, asInt, asBool, fits, sizeLine, binV, cmpV, truthD, slV, biV, isTy, runF, startE, argsFit, lentBack, handBack, store_if, storeN_if, storeV, change, isOwn, io_fz, io_un, io_ow, io_io, ixL, augI, augV, callV, handOver, lentAt, shownAt, putBack, Res.need, slot, immV, isNoneD, negV, SeqAt.shaped, ev_ii, ev_bb, ev_ss, ev_tt, ev_ll, PyData.eqvAll, PyData.canLay0, PyData.canLayAll0, PyData.depth, PyData.depthAll, f__law_is_set, setB]
end PX
namespace PX
open PySem PySem.Spec PyProof.Rows L2
def ints1 : D → List Int
  | .tuple xs => (asInts xs).getD []
  | _ => []
theorem ints1_tI (ns : List Int) : ints1 (tI ns) = ns := by
  show (asInts (ns.map PyData.int)).getD [] = ns
  rw [asInts_ints]
  rfl
theorem setB_is {m : Int} {d : D} (h : setB m d = true) : ∃ ns, d = tI ns ∧ ns.Pairwise (· < ·) ∧ ∀ i ∈ ns, 0 ≤ i ∧ i < m := by
  cases d with
  | tuple xs =>
    cases hx : asInts xs with
    | none => simp [opd, twoD, oneD, settle, look, slotD, alias1, aliasL, lookL, asInt, asBool, fits, sizeLine, binV, cmpV, truthD, slV, biV, isTy, runF, startE, argsFit, lentBack, handBack, store_if, storeN_if, storeV, change, isOwn, io_fz, io_un, io_ow, io_io, ixL, augI, augV, callV, handOver, lentAt, shownAt, putBack, Res.need, slot, immV, isNoneD, negV, SeqAt.shaped, ev_ii, ev_bb, ev_ss, ev_tt, ev_ll, PyData.eqvAll, PyData.canLay0, PyData.canLayAll0, PyData.depth, PyData.depthAll, setB, hx] at h
    | some ns =>
      have h : ((ns == setZ ns) && ns.all fun i => decide (0 ≤ i) && decide (i < m)) = true := by simpa only [setB, hx] using h
      rw [Bool.and_eq_true] at h
      exact ⟨ns, by rw [asInts_some hx], setZ_eq.mp (beq_iff_eq.mp h.1), fun i hi => by simpa using List.all_eq_true.mp h.2 i hi⟩
  | _ => cases h
def meetsB (rows : List (List Int)) (ps : List Int) : Bool := rows.all fun r => ps.any fun x => r.any (· == x)
def colsAt (rows : List (List Int)) (rs : List Int) : List Int := (rs.map fun i => rows.getD i.toNat []).flatten
def apartB (rows : List (List Int)) (rs : List Int) : Bool := (dedupZ (colsAt rows rs)).length == (colsAt rows rs).length
def pairB (m : Nat) (rows : List (List Int)) : D → Bool
  | .tuple [p, r] => setB m p && (setB rows.length r && ((ints1 p).length == (ints1 r).length && (meetsB rows (ints1 p) && apartB rows (ints1 r))))
  | _ => false
def okSide (d : D) : Prop := ∀ xs, d = .tuple xs → Sh xs ∧ xs.length < 64
theorem shape_tIs : ∀ l : List (List Int), PyData.canLayAll0 (l.map tI) = true ∧ PyData.depthAll (l.map tI) ≤ 1
  | [] => ⟨rfl, Nat.zero_le _⟩
  | r :: l => by
    obtain ⟨h1, h2⟩ := shape_tIs l
    refine ⟨?_, ?_⟩
    · show (PyData.canLayAll0 (r.map PyData.int) && PyData.canLayAll0 (l.map tI)) = true
      rw [canL_ints, h1]
      rfl
    · show max (PyData.depthAll (r.map PyData.int) + 1) (PyData.depthAll (l.map tI)) ≤ 1
      rw [depL_ints]
      omega
section
variable {m : Nat} {rows : List (List Int)} {call : CallT} {lo : String → Option (List Nat)} {rest : Env}
theorem e_rows : evE call lo (.ix (.nm 0) (.c (.int (1)))) (.fz (board m rows) :: rest) = .ok (.d (tR rows), .fz (board m rows) :: rest) := by
  have e1 : atI [PyData.int m, tR rows] 1 = some (tR rows) := at1
  simp [opd, twoD, oneD, settle, look, slotD, alias1, aliasL, lookL, asInt, asBool, fits, sizeLine, binV, cmpV, truthD, slV, biV, isTy, runF, startE, argsFit, lentBack, handBack, store_if, storeN_if, storeV, change, isOwn, io_fz, io_un, io_ow, io_io, ixL, augI, augV, callV, handOver, lentAt, shownAt, putBack, Res.need, slot, immV, isNoneD, negV, SeqAt.shaped, ev_ii, ev_bb, ev_ss, ev_tt, ev_ll, PyData.eqvAll, PyData.canLay0, PyData.canLayAll0, PyData.depth, PyData.depthAll, board, ixV, e1]
theorem e_many : evE call lo (.ix (.nm 0) (.c (.int (0)))) (.fz (board m rows) :: rest) = .ok (.d (.int m), .fz (board m rows) :: rest) := by
  have e1 : atI [PyData.int m, tR rows] 0 = some (.int m) := at0
  simp [opd, twoD, oneD, settle, look, slotD, alias1, aliasL, lookL, asInt, asBool, fits, sizeLine, binV, cmpV, truthD, slV, biV, isTy, runF, startE, argsFit, lentBack, handBack, store_if, storeN_if, storeV, change, isOwn, io_fz, io_un, io_ow, io_io, ixL, augI, augV, callV, handOver, lentAt, shownAt, putBack, Res.need, slot, immV, isNoneD, negV, SeqAt.shaped, ev_ii, ev_bb, ev_ss, ev_tt, ev_ll, PyData.eqvAll, PyData.canLay0, PyData.canLayAll0, PyData.depth, PyData.depthAll, board, ixV, e1]
theorem e_lenrows : evE call lo (.bi .len (.cons (.ix (.nm 0) (.c (.int (1)))) .nil)) (.fz (board m rows) :: rest) = .ok (.d (.int rows.length), .fz (board m rows) :: rest) := by
  rw [x_E_bi, x_Es_cons, e_rows]
  simp [opd, twoD, oneD, settle, look, slotD, alias1, aliasL, lookL, asInt, asBool, fits, sizeLine, binV, cmpV, truthD, slV, biV, isTy, runF, startE, argsFit, lentBack, handBack, store_if, storeN_if, storeV, change, isOwn, io_fz, io_un, io_ow, io_io, ixL, augI, augV, callV, handOver, lentAt, shownAt, putBack, Res.need, slot, immV, isNoneD, negV, SeqAt.shaped, ev_ii, ev_bb, ev_ss, ev_tt, ev_ll, PyData.eqvAll, PyData.canLay0, PyData.canLayAll0, PyData.depth, PyData.depthAll, tR, biV]
theorem e_empty : evE call lo (.cmp .In (.tup .nil) (.ix (.nm 0) (.c (.int (1))))) (.fz (board m rows) :: rest) = .ok (.d (.bool (rows.any (·.isEmpty))), .fz (board m rows) :: rest) := by
  obtain ⟨h1, h2⟩ := shape_tIs rows
  have h3 : PyData.depthAll (rows.map tI) ≤ 63 := by omega
  have h4 : inD (.tuple []) (rows.map tI) = rows.any (·.isEmpty) := by
    unfold inD
    rw [List.any_map]
    congr 1
    funext r
    show PyData.eqv (tI r) (.tuple []) = r.isEmpty
    rw [ev_tt, eqvAll_nil]
    cases r <;> rfl
  have e : evE call lo (.tup .nil) (.fz (board m rows) :: rest) = .ok (.d (.tuple []), .fz (board m rows) :: rest) := by simp [opd, twoD, oneD, settle, look, slotD, alias1, aliasL, lookL, asInt, asBool, fits, sizeLine, binV, cmpV, truthD, slV, biV, isTy, runF, startE, argsFit, lentBack, handBack, store_if, storeN_if, storeV, change, isOwn, io_fz, io_un, io_ow, io_io, ixL, augI, augV, callV, handOver, lentAt, shownAt, putBack, Res.need, slot, immV, isNoneD, negV, SeqAt.shaped, ev_ii, ev_bb, ev_ss, ev_tt, ev_ll, PyData.eqvAll, PyData.canLay0, PyData.canLayAll0, PyData.depth, PyData.depthAll]
  have er := e_rows (m := m) (rows := rows) (call := call) (lo := lo) (rest := rest)
  simp [opd, twoD, oneD, settle, look, slotD, alias1, aliasL, lookL, asInt, asBool, fits, sizeLine, binV, cmpV, truthD, slV, biV, isTy, runF, startE, argsFit, lentBack, handBack, store_if, storeN_if, storeV, change, isOwn, io_fz, io_un, io_ow, io_io, ixL, augI, augV, callV, handOver, lentAt, shownAt, putBack, Res.need, slot, immV, isNoneD, negV, SeqAt.shaped, ev_ii, ev_bb, ev_ss, ev_tt, ev_ll, PyData.eqvAll, PyData.canLay0, PyData.canLayAll0, PyData.depth, PyData.depthAll, -x_E_ix, er, tR, flatD, h1, h3, h4]
theorem s_rows : evSrc call lo (.seq (.ix (.nm 0) (.c (.int (1))))) (.fz (board m rows) :: rest) = .ok (rows.map tI, .fz (board m rows) :: rest) := by
  rw [x_Src_seq, e_rows]
  simp [opd, twoD, oneD, settle, look, slotD, alias1, aliasL, lookL, asInt, asBool, fits, sizeLine, binV, cmpV, truthD, slV, biV, isTy, runF, startE, argsFit, lentBack, handBack, store_if, storeN_if, storeV, change, isOwn, io_fz, io_un, io_ow, io_io, ixL, augI, augV, callV, handOver, lentAt, shownAt, putBack, Res.need, slot, immV, isNoneD, negV, SeqAt.shaped, ev_ii, ev_bb, ev_ss, ev_tt, ev_ll, PyData.eqvAll, PyData.canLay0, PyData.canLayAll0, PyData.depth, PyData.depthAll, tR, seqOf]
end
def b2 : Nat → Ss → Ss
  | 0, ss => ss
  | n + 1, .cons _ ss => b2 n ss
  | _, .nil => .nil
theorem row_at {rows : List (List Int)} {i : Int} (h0 : 0 ≤ i) (h1 : i < rows.length) : ixV (tR rows) (.int i) = .ok (.d (tI (rows.getD i.toNat []))) := by
  obtain ⟨k, rfl⟩ : ∃ k : Nat, i = (k : Int) := ⟨i.toNat, by omega⟩
  have hk : k < rows.length := by omega
  have e : atI (rows.map tI) (k : Int) = some (tI rows[k]) := by
    rw [atI_nat (by simpa using hk), List.getElem?_map, List.getElem?_eq_getElem hk]
    rfl
  show (match atI (rows.map tI) (k : Int) with | some v => (.ok (.d v) : Res Val) | none => .bad) = _
  rw [e, Int.toNat_natCast, List.getD_eq_getElem?_getD, List.getElem?_eq_getElem hk]
  rfl
theorem colsAt_len {rows : List (List Int)} (hr : ∀ r ∈ rows, r.length ≤ 10) : ∀ rs : List Int, (colsAt rows rs).length ≤ 10 * rs.length
  | [] => Nat.zero_le _
  | i :: rs => by
    have ih := colsAt_len hr rs
    have e : colsAt rows (i :: rs) = rows.getD i.toNat [] ++ colsAt rows rs := rfl
    have h1 : (rows.getD i.toNat []).length ≤ 10 := by
      rw [List.getD_eq_getElem?_getD]
      cases hx : rows[i.toNat]? with
      | none => simp [opd, twoD, oneD, settle, look, slotD, alias1, aliasL, lookL, asInt, asBool, fits, sizeLine, binV, cmpV, truthD, slV, biV, isTy, runF, startE, argsFit, lentBack, handBack, store_if, storeN_if, storeV, change, isOwn, io_fz, io_un, io_ow, io_io, ixL, augI, augV, callV, handOver, lentAt, shownAt, putBack, Res.need, slot, immV, isNoneD, negV, SeqAt.shaped, ev_ii, ev_bb, ev_ss, ev_tt, ev_ll, PyData.eqvAll, PyData.canLay0, PyData.canLayAll0, PyData.depth, PyData.depthAll]
      | some r => simpa using hr r (List.mem_of_getElem? hx)
    rw [e, List.length_append, List.length_cons]
    omega
theorem filt_empty (rows : List (List Int)) (ps : List Int) : (rows.filter fun row => (ps.filter fun x => row.any (· == x)).isEmpty).isEmpty = meetsB rows ps := by
  unfold meetsB
  rw [Bool.eq_iff_iff]
  simp [opd, twoD, oneD, settle, look, slotD, alias1, aliasL, lookL, asInt, asBool, fits, sizeLine, binV, cmpV, truthD, slV, biV, isTy, runF, startE, argsFit, lentBack, handBack, store_if, storeN_if, storeV, change, isOwn, io_fz, io_un, io_ow, io_io, ixL, augI, augV, callV, handOver, lentAt, shownAt, putBack, Res.need, slot, immV, isNoneD, negV, SeqAt.shaped, ev_ii, ev_bb, ev_ss, ev_tt, ev_ll, PyData.eqvAll, PyData.canLay0, PyData.canLayAll0, PyData.depth, PyData.depthAll]
theorem c_is_pair (n : Nat) {m : Nat} {rows : List (List Int)} (hr : ∀ r ∈ rows, r.length ≤ 10) {v : D} (hv : ∀ p r, v = .tuple [p, r] → okSide p ∧ okSide r) :
    callN P (n + 2) "_law_is_pair" [.fz (board m rows), .fz v] = .ok (.d (.bool (!(rows.any (·.isEmpty)) && pairB m rows v)), []) := by
  have eb : f__law_is_pair.body = .cons (nthS f__law_is_pair.body 0) (.cons (nthS f__law_is_pair.body 1) (.cons (nthS f__law_is_pair.body 2) (.cons (nthS f__law_is_pair.body 3) (.cons (nthS f__law_is_pair.body 4) (.cons (nthS f__law_is_pair.body 5) (.cons (nthS f__law_is_pair.body 6) .nil)))))) := rfl
  have e0 : nthS f__law_is_pair.body 0 = .ife (.or (.not (.val (.isi (.nm 1) .tuple))) (.or (.val (.cmp .NotEq (.bi .len (.cons (.nm 1) .nil)) (.c (.int (2))))) (.val (.cmp .In (.tup .nil) (.ix (.nm 0) (.c (.int (1)))))))) (.cons (.ret (.c (.bool false))) .nil) .nil := rfl
  have no : ∀ ρ, evT (callN P (n + 1)) (lentIn P) (.or (.not (.val (.isi (.nm 1) .tuple))) (.or (.val (.cmp .NotEq (.bi .len (.cons (.nm 1) .nil)) (.c (.int (2))))) (.val (.cmp .In (.tup .nil) (.ix (.nm 0) (.c (.int (1)))))))) [.fz (board m rows), .fz v, .un, .un, .un, .un, .un, .un] = .ok (true, ρ) → (rows.any (·.isEmpty) = true ∨ pairB m rows v = false) → ρ = [.fz (board m rows), .fz v, .un, .un, .un, .un, .un, .un] →
      callN P (n + 2) "_law_is_pair" [.fz (board m rows), .fz v] = .ok (.d (.bool (!(rows.any (·.isEmpty)) && pairB m rows v)), []) := fun ρ ht hz eρ => by
    have hval : (!(rows.any (·.isEmpty)) && pairB m rows v) = false := by
      rcases hz with h | h
      · rw [h]; rfl
      · rw [h, Bool.and_false]
    subst eρ
    rw [hval]
    refine call_ret (fd := f__law_is_pair) (v := .d (.bool false)) (ρ1 := [.fz (board m rows), .fz v, .un, .un, .un, .un, .un, .un]) rfl ⟨rfl, rfl⟩ ?_ rfl rfl
    rw [eb]
    refine ss_ret ?_
    show evS (callN P (n + 1)) (lentIn P) (nthS f__law_is_pair.body 0) [.fz (board m rows), .fz v, .un, .un, .un, .un, .un, .un] = _
    rw [e0, x_S_ife, ht]
    rfl
  cases v with
  | tuple xs =>
    match xs, hv, no with
    | [], _, no => exact no _ (by simp [opd, twoD, oneD, settle, look, slotD, alias1, aliasL, lookL, asInt, asBool, fits, sizeLine, binV, cmpV, truthD, slV, biV, isTy, runF, startE, argsFit, lentBack, handBack, store_if, storeN_if, storeV, change, isOwn, io_fz, io_un, io_ow, io_io, ixL, augI, augV, callV, handOver, lentAt, shownAt, putBack, Res.need, slot, immV, isNoneD, negV, SeqAt.shaped, ev_ii, ev_bb, ev_ss, ev_tt, ev_ll, PyData.eqvAll, PyData.canLay0, PyData.canLayAll0, PyData.depth, PyData.depthAll, biV]) (.inr rfl) rfl
    | [a], _, no => exact no _ (by simp [opd, twoD, oneD, settle, look, slotD, alias1, aliasL, lookL, asInt, asBool, fits, sizeLine, binV, cmpV, truthD, slV, biV, isTy, runF, startE, argsFit, lentBack, handBack, store_if, storeN_if, storeV, change, isOwn, io_fz, io_un, io_ow, io_io, ixL, augI, augV, callV, handOver, lentAt, shownAt, putBack, Res.need, slot, immV, isNoneD, negV, SeqAt.shaped, ev_ii, ev_bb, ev_ss, ev_tt, ev_ll, PyData.eqvAll, PyData.canLay0, PyData.canLayAll0, PyData.depth, PyData.depthAll, biV]) (.inr rfl) rfl
    | a :: b :: c :: xs, _, no =>
      have e : ¬ ((xs.length : Int) + 1 + 1 + 1 = 2) := by omega
      exact no _ (by simp [opd, twoD, oneD, settle, look, slotD, alias1, aliasL, lookL, asInt, asBool, fits, sizeLine, binV, cmpV, truthD, slV, biV, isTy, runF, startE, argsFit, lentBack, handBack, store_if, storeN_if, storeV, change, isOwn, io_fz, io_un, io_ow, io_io, ixL, augI, augV, callV, handOver, lentAt, shownAt, putBack, Res.need, slot, immV, isNoneD, negV, SeqAt.shaped, ev_ii, ev_bb, ev_ss, ev_tt, ev_ll, PyData.eqvAll, PyData.canLay0, PyData.canLayAll0, PyData.depth, PyData.depthAll, biV, e]) (.inr rfl) rfl
    | [p, r], hv, no =>
      obtain ⟨okp, okr⟩ := hv p r rfl
      have htest : evT (callN P (n + 1)) (lentIn P) (.or (.not (.val (.isi (.nm 1) .tuple))) (.or (.val (.cmp .NotEq (.bi .len (.cons (.nm 1) .nil)) (.c (.int (2))))) (.val (.cmp .In (.tup .nil) (.ix (.nm 0) (.c (.int (1)))))))) [.fz (board m rows), .fz (.tuple [p, r]), .un, .un, .un, .un, .un, .un] = .ok (rows.any (·.isEmpty), [.fz (board m rows), .fz (.tuple [p, r]), .un, .un, .un, .un, .un, .un]) := by
        have := e_empty (m := m) (rows := rows) (call := callN P (n + 1)) (lo := lentIn P) (rest := [.fz (.tuple [p, r]), .un, .un, .un, .un, .un, .un])
        simp [opd, twoD, oneD, settle, look, slotD, alias1, aliasL, lookL, asInt, asBool, fits, sizeLine, binV, cmpV, truthD, slV, biV, isTy, runF, startE, argsFit, lentBack, handBack, store_if, storeN_if, storeV, change, isOwn, io_fz, io_un, io_ow, io_io, ixL, augI, augV, callV, handOver, lentAt, shownAt, putBack, Res.need, slot, immV, isNoneD, negV, SeqAt.shaped, ev_ii, ev_bb, ev_ss, ev_tt, ev_ll, PyData.eqvAll, PyData.canLay0, PyData.canLayAll0, PyData.depth, PyData.depthAll, -x_E_cmp, this, biV, show ∀ ρ, evE (callN P (n + 1)) (lentIn P) (.cmp .NotEq (.bi .len (.cons (.nm 1) .nil)) (.c (.int (2)))) (.fz ρ :: .fz (.tuple [p, r]) :: [.un, .un, .un, .un, .un, .un]) = .ok (.d (.bool false), (.fz ρ :: .fz (.tuple [p, r]) :: [.un, .un, .un, .un, .un, .un])) from fun ρ => by simp [opd, twoD, oneD, settle, look, slotD, alias1, aliasL, lookL, asInt, asBool, fits, sizeLine, binV, cmpV, truthD, slV, biV, isTy, runF, startE, argsFit, lentBack, handBack, store_if, storeN_if, storeV, change, isOwn, io_fz, io_un, io_ow, io_io, ixL, augI, augV, callV, handOver, lentAt, shownAt, putBack, Res.need, slot, immV, isNoneD, negV, SeqAt.shaped, ev_ii, ev_bb, ev_ss, ev_tt, ev_ll, PyData.eqvAll, PyData.canLay0, PyData.canLayAll0, PyData.depth, PyData.depthAll, biV]]
      cases hemp : rows.any (·.isEmpty) with
      | true =>
        rw [hemp] at htest
        have := no _ htest (.inl hemp) rfl
        rw [hemp] at this
        exact this
      | false =>
        rw [hemp] at htest
        rw [Bool.not_false, Bool.true_and]
        have s0 : evS (callN P (n + 1)) (lentIn P) (nthS f__law_is_pair.body 0) [.fz (board m rows), .fz (.tuple [p, r]), .un, .un, .un, .un, .un, .un] = .ok (.nx [.fz (board m rows), .fz (.tuple [p, r]), .un, .un, .un, .un, .un, .un]) := by
          rw [e0, x_S_ife, htest]
          rfl
        have s1 : evS (callN P (n + 1)) (lentIn P) (nthS f__law_is_pair.body 1) [.fz (board m rows), .fz (.tuple [p, r]), .un, .un, .un, .un, .un, .un] = .ok (.nx [.fz (board m rows), .fz (.tuple [p, r]), .fz p, .fz r, .un, .un, .un, .un]) := by
          simp [opd, twoD, oneD, settle, look, slotD, alias1, aliasL, lookL, asInt, asBool, fits, sizeLine, binV, cmpV, truthD, slV, biV, isTy, runF, startE, argsFit, lentBack, handBack, store_if, storeN_if, storeV, change, isOwn, io_fz, io_un, io_ow, io_io, ixL, augI, augV, callV, handOver, lentAt, shownAt, putBack, Res.need, slot, immV, isNoneD, negV, SeqAt.shaped, ev_ii, ev_bb, ev_ss, ev_tt, ev_ll, PyData.eqvAll, PyData.canLay0, PyData.canLayAll0, PyData.depth, PyData.depthAll, nthS, f__law_is_pair, storeTg, storeAll]
        have a1 := c_law_is_set n p m okp
        have a2 := c_law_is_set n r rows.length okr
        have l1 : evE (callN P (n + 1)) (lentIn P) (.call "_law_is_set" (.cons (.nm 2) (.cons (.ix (.nm 0) (.c (.int (0)))) .nil))) [.fz (board m rows), .fz (.tuple [p, r]), .fz p, .fz r, .un, .un, .un, .un] = .ok (.d (.bool (setB m p)), [.fz (board m rows), .fz (.tuple [p, r]), .fz p, .fz r, .un, .un, .un, .un]) := by
          have := e_many (m := m) (rows := rows) (call := callN P (n + 1)) (lo := lentIn P) (rest := [.fz (.tuple [p, r]), .fz p, .fz r, .un, .un, .un, .un])
          simp [opd, twoD, oneD, settle, look, slotD, alias1, aliasL, lookL, asInt, asBool, fits, sizeLine, binV, cmpV, truthD, slV, biV, isTy, runF, startE, argsFit, lentBack, handBack, store_if, storeN_if, storeV, change, isOwn, io_fz, io_un, io_ow, io_io, ixL, augI, augV, callV, handOver, lentAt, shownAt, putBack, Res.need, slot, immV, isNoneD, negV, SeqAt.shaped, ev_ii, ev_bb, ev_ss, ev_tt, ev_ll, PyData.eqvAll, PyData.canLay0, PyData.canLayAll0, PyData.depth, PyData.depthAll, -x_E_ix, this, l_law_is_set, a1]
        have l2 : evE (callN P (n + 1)) (lentIn P) (.call "_law_is_set" (.cons (.nm 3) (.cons (.bi .len (.cons (.ix (.nm 0) (.c (.int (1)))) .nil)) .nil))) [.fz (board m rows), .fz (.tuple [p, r]), .fz p, .fz r, .un, .un, .un, .un] = .ok (.d (.bool (setB rows.length r)), [.fz (board m rows), .fz (.tuple [p, r]), .fz p, .fz r, .un, .un, .un, .un]) := by
          have := e_lenrows (m := m) (rows := rows) (call := callN P (n + 1)) (lo := lentIn P) (rest := [.fz (.tuple [p, r]), .fz p, .fz r, .un, .un, .un, .un])
          simp [opd, twoD, oneD, settle, look, slotD, alias1, aliasL, lookL, asInt, asBool, fits, sizeLine, binV, cmpV, truthD, slV, biV, isTy, runF, startE, argsFit, lentBack, handBack, store_if, storeN_if, storeV, change, isOwn, io_fz, io_un, io_ow, io_io, ixL, augI, augV, callV, handOver, lentAt, shownAt, putBack, Res.need, slot, immV, isNoneD, negV, SeqAt.shaped, ev_ii, ev_bb, ev_ss, ev_tt, ev_ll, PyData.eqvAll, PyData.canLay0, PyData.canLayAll0, PyData.depth, PyData.depthAll, -x_E_bi, this, l_law_is_set, a2]
        have e2 : nthS f__law_is_pair.body 2 = .ife (.or (.not (.val (.call "_law_is_set" (.cons (.nm 2) (.cons (.ix (.nm 0) (.c (.int (0)))) .nil))))) (.or (.not (.val (.call "_law_is_set" (.cons (.nm 3) (.cons (.bi .len (.cons (.ix (.nm 0) (.c (.int (1)))) .nil)) .nil))))) (.val (.cmp .NotEq (.bi .len (.cons (.nm 2) .nil)) (.bi .len (.cons (.nm 3) .nil)))))) (.cons (.ret (.c (.bool false))) .nil) .nil := rfl
        have out : ∀ k : Nat, evS (callN P (n + 1)) (lentIn P) (nthS f__law_is_pair.body 2) [.fz (board m rows), .fz (.tuple [p, r]), .fz p, .fz r, .un, .un, .un, .un] = .ok (.ret (.d (.bool false)) [.fz (board m rows), .fz (.tuple [p, r]), .fz p, .fz r, .un, .un, .un, .un]) → pairB m rows (.tuple [p, r]) = false → callN P (n + 2) "_law_is_pair" [.fz (board m rows), .fz (.tuple [p, r])] = .ok (.d (.bool (pairB m rows (.tuple [p, r]))), []) := fun k hs hz => by
          rw [hz]
          refine call_ret (fd := f__law_is_pair) (v := .d (.bool false)) (ρ1 := [.fz (board m rows), .fz (.tuple [p, r]), .fz p, .fz r, .un, .un, .un, .un]) rfl ⟨rfl, rfl⟩ ?_ rfl rfl
          rw [eb]
          exact (ss_nx s0).trans ((ss_nx s1).trans (ss_ret hs))
        cases hp : setB m p with
        | false =>
          rw [hp] at l1
          exact out 0 (by rw [e2]; simp [opd, twoD, oneD, settle, look, slotD, alias1, aliasL, lookL, asInt, asBool, fits, sizeLine, binV, cmpV, truthD, slV, biV, isTy, runF, startE, argsFit, lentBack, handBack, store_if, storeN_if, storeV, change, isOwn, io_fz, io_un, io_ow, io_io, ixL, augI, augV, callV, handOver, lentAt, shownAt, putBack, Res.need, slot, immV, isNoneD, negV, SeqAt.shaped, ev_ii, ev_bb, ev_ss, ev_tt, ev_ll, PyData.eqvAll, PyData.canLay0, PyData.canLayAll0, PyData.depth, PyData.depthAll, -x_E_call, l1]) (by simp [opd, twoD, oneD, settle, look, slotD, alias1, aliasL, lookL, asInt, asBool, fits, sizeLine, binV, cmpV, truthD, slV, biV, isTy, runF, startE, argsFit, lentBack, handBack, store_if, storeN_if, storeV, change, isOwn, io_fz, io_un, io_ow, io_io, ixL, augI, augV, callV, handOver, lentAt, shownAt, putBack, Res.need, slot, immV, isNoneD, negV, SeqAt.shaped, ev_ii, ev_bb, ev_ss, ev_tt, ev_ll, PyData.eqvAll, PyData.canLay0, PyData.canLayAll0, PyData.depth, PyData.depthAll, pairB, hp])
        | true =>
        cases hq : setB rows.length r with
        | false =>
          rw [hp] at l1
          rw [hq] at l2
          exact out 0 (by rw [e2]; simp [opd, twoD, oneD, settle, look, slotD, alias1, aliasL, lookL, asInt, asBool, fits, sizeLine, binV, cmpV, truthD, slV, biV, isTy, runF, startE, argsFit, lentBack, handBack, store_if, storeN_if, storeV, change, isOwn, io_fz, io_un, io_ow, io_io, ixL, augI, augV, callV, handOver, lentAt, shownAt, putBack, Res.need, slot, immV, isNoneD, negV, SeqAt.shaped, ev_ii, ev_bb, ev_ss, ev_tt, ev_ll, PyData.eqvAll, PyData.canLay0, PyData.canLayAll0, PyData.depth, PyData.depthAll, -x_E_call, l1, l2]) (by simp [opd, twoD, oneD, settle, look, slotD, alias1, aliasL, lookL, asInt, asBool, fits, sizeLine, binV, cmpV, truthD, slV, biV, isTy, runF, startE, argsFit, lentBack, handBack, store_if, storeN_if, storeV, change, isOwn, io_fz, io_un, io_ow, io_io, ixL, augI, augV, callV, handOver, lentAt, shownAt, putBack, Res.need, slot, immV, isNoneD, negV, SeqAt.shaped, ev_ii, ev_bb, ev_ss, ev_tt, ev_ll, PyData.eqvAll, PyData.canLay0, PyData.canLayAll0, PyData.depth, PyData.depthAll, pairB, hp, hq])
        | true =>
        rw [hp] at l1
        rw [hq] at l2
        obtain ⟨ps, rfl, pp1, pp2⟩ := setB_is hp
        obtain ⟨rs, rfl, rr1, rr2⟩ := setB_is hq
        have hrl : rs.length < 64 := by have := (okr _ rfl).2; simpa using this
        by_cases hlen : ps.length = rs.length
        · have s2 : evS (callN P (n + 1)) (lentIn P) (nthS f__law_is_pair.body 2) [.fz (board m rows), .fz (.tuple [tI ps, tI rs]), .fz (tI ps), .fz (tI rs), .un, .un, .un, .un] = .ok (.nx [.fz (board m rows), .fz (.tuple [tI ps, tI rs]), .fz (tI ps), .fz (tI rs), .un, .un, .un, .un]) := by
            rw [e2]
            simp [opd, twoD, oneD, settle, look, slotD, alias1, aliasL, lookL, asInt, asBool, fits, sizeLine, binV, cmpV, truthD, slV, biV, isTy, runF, startE, argsFit, lentBack, handBack, store_if, storeN_if, storeV, change, isOwn, io_fz, io_un, io_ow, io_io, ixL, augI, augV, callV, handOver, lentAt, shownAt, putBack, Res.need, slot, immV, isNoneD, negV, SeqAt.shaped, ev_ii, ev_bb, ev_ss, ev_tt, ev_ll, PyData.eqvAll, PyData.canLay0, PyData.canLayAll0, PyData.depth, PyData.depthAll, -x_E_call, l1, l2, biV, hlen]
          -- rows that no point meets
          have hT := turns_filterG (tg := .nm 6) (own := [6]) (ρ := [.fz (board m rows), .fz (.tuple [tI ps, tI rs]), .fz (tI ps), .fz (tI rs), .un, .un, .un, .un]) (test := cT (callN P (n + 1)) (lentIn P) (.val (.cmp .Eq (.compif (.nm 7) (.nm 7) (.seq (.nm 2)) (.val (.cmp .In (.nm 7) (.nm 6))) [7]) (.lst .nil)))) (elt := cE (callN P (n + 1)) (lentIn P) (.nm 6))
            (ys := rows) (acc := []) tI (fun row => (ps.filter fun x => row.any (· == x)).isEmpty) tI fun row _ => by
              have hI := turns_filterG (tg := .nm 7) (own := [7]) (ρ := [.fz (board m rows), .fz (.tuple [tI ps, tI rs]), .fz (tI ps), .fz (tI rs), .un, .un, .fz (tI row), .un]) (test := cT (callN P (n + 1)) (lentIn P) (.val (.cmp .In (.nm 7) (.nm 6)))) (elt := cE (callN P (n + 1)) (lentIn P) (.nm 7))
                (ys := ps) (acc := []) PyData.int (fun x => row.any (· == x)) PyData.int fun x _ => ⟨[.fz (board m rows), .fz (.tuple [tI ps, tI rs]), .fz (tI ps), .fz (tI rs), .un, .un, .fz (tI row), .fz (.int x)], by simp [opd, twoD, oneD, settle, look, slotD, alias1, aliasL, lookL, asInt, asBool, fits, sizeLine, binV, cmpV, truthD, slV, biV, isTy, runF, startE, argsFit, lentBack, handBack, store_if, storeN_if, storeV, change, isOwn, io_fz, io_un, io_ow, io_io, ixL, augI, augV, callV, handOver, lentAt, shownAt, putBack, Res.need, slot, immV, isNoneD, negV, SeqAt.shaped, ev_ii, ev_bb, ev_ss, ev_tt, ev_ll, PyData.eqvAll, PyData.canLay0, PyData.canLayAll0, PyData.depth, PyData.depthAll, storeTg], by simp [opd, twoD, oneD, settle, look, slotD, alias1, aliasL, lookL, asInt, asBool, fits, sizeLine, binV, cmpV, truthD, slV, biV, isTy, runF, startE, argsFit, lentBack, handBack, store_if, storeN_if, storeV, change, isOwn, io_fz, io_un, io_ow, io_io, ixL, augI, augV, callV, handOver, lentAt, shownAt, putBack, Res.need, slot, immV, isNoneD, negV, SeqAt.shaped, ev_ii, ev_bb, ev_ss, ev_tt, ev_ll, PyData.eqvAll, PyData.canLay0, PyData.canLayAll0, PyData.depth, PyData.depthAll, flatD, flat_ints, inD_ints], fun _ => by simp [opd, twoD, oneD, settle, look, slotD, alias1, aliasL, lookL, asInt, asBool, fits, sizeLine, binV, cmpV, truthD, slV, biV, isTy, runF, startE, argsFit, lentBack, handBack, store_if, storeN_if, storeV, change, isOwn, io_fz, io_un, io_ow, io_io, ixL, augI, augV, callV, handOver, lentAt, shownAt, putBack, Res.need, slot, immV, isNoneD, negV, SeqAt.shaped, ev_ii, ev_bb, ev_ss, ev_tt, ev_ll, PyData.eqvAll, PyData.canLay0, PyData.canLayAll0, PyData.depth, PyData.depthAll], by simp [opd, twoD, oneD, settle, look, slotD, alias1, aliasL, lookL, asInt, asBool, fits, sizeLine, binV, cmpV, truthD, slV, biV, isTy, runF, startE, argsFit, lentBack, handBack, store_if, storeN_if, storeV, change, isOwn, io_fz, io_un, io_ow, io_io, ixL, augI, augV, callV, handOver, lentAt, shownAt, putBack, Res.need, slot, immV, isNoneD, negV, SeqAt.shaped, ev_ii, ev_bb, ev_ss, ev_tt, ev_ll, PyData.eqvAll, PyData.canLay0, PyData.canLayAll0, PyData.depth, PyData.depthAll, wipeE]⟩
              rw [List.nil_append] at hI
              have hSI : evSrc (callN P (n + 1)) (lentIn P) (.seq (.nm 2)) [.fz (board m rows), .fz (.tuple [tI ps, tI rs]), .fz (tI ps), .fz (tI rs), .un, .un, .fz (tI row), .un] = .ok (ps.map PyData.int, [.fz (board m rows), .fz (.tuple [tI ps, tI rs]), .fz (tI ps), .fz (tI rs), .un, .un, .fz (tI row), .un]) := by simp [opd, twoD, oneD, settle, look, slotD, alias1, aliasL, lookL, asInt, asBool, fits, sizeLine, binV, cmpV, truthD, slV, biV, isTy, runF, startE, argsFit, lentBack, handBack, store_if, storeN_if, storeV, change, isOwn, io_fz, io_un, io_ow, io_io, ixL, augI, augV, callV, handOver, lentAt, shownAt, putBack, Res.need, slot, immV, isNoneD, negV, SeqAt.shaped, ev_ii, ev_bb, ev_ss, ev_tt, ev_ll, PyData.eqvAll, PyData.canLay0, PyData.canLayAll0, PyData.depth, PyData.depthAll, seqOf]
              have hcI := compif_run (own := [7]) hSI hI
              have hre : restore [.fz (board m rows), .fz (.tuple [tI ps, tI rs]), .fz (tI ps), .fz (tI rs), .un, .un, .fz (tI row), .un] [.fz (board m rows), .fz (.tuple [tI ps, tI rs]), .fz (tI ps), .fz (tI rs), .un, .un, .fz (tI row), .un] [7] = [.fz (board m rows), .fz (.tuple [tI ps, tI rs]), .fz (tI ps), .fz (tI rs), .un, .un, .fz (tI row), .un] := by simp [opd, twoD, oneD, settle, look, slotD, alias1, aliasL, lookL, asInt, asBool, fits, sizeLine, binV, cmpV, truthD, slV, biV, isTy, runF, startE, argsFit, lentBack, handBack, store_if, storeN_if, storeV, change, isOwn, io_fz, io_un, io_ow, io_io, ixL, augI, augV, callV, handOver, lentAt, shownAt, putBack, Res.need, slot, immV, isNoneD, negV, SeqAt.shaped, ev_ii, ev_bb, ev_ss, ev_tt, ev_ll, PyData.eqvAll, PyData.canLay0, PyData.canLayAll0, PyData.depth, PyData.depthAll, restore]
              rw [hre] at hcI
              refine ⟨[.fz (board m rows), .fz (.tuple [tI ps, tI rs]), .fz (tI ps), .fz (tI rs), .un, .un, .fz (tI row), .un], by simp [opd, twoD, oneD, settle, look, slotD, alias1, aliasL, lookL, asInt, asBool, fits, sizeLine, binV, cmpV, truthD, slV, biV, isTy, runF, startE, argsFit, lentBack, handBack, store_if, storeN_if, storeV, change, isOwn, io_fz, io_un, io_ow, io_io, ixL, augI, augV, callV, handOver, lentAt, shownAt, putBack, Res.need, slot, immV, isNoneD, negV, SeqAt.shaped, ev_ii, ev_bb, ev_ss, ev_tt, ev_ll, PyData.eqvAll, PyData.canLay0, PyData.canLayAll0, PyData.depth, PyData.depthAll, storeTg], ?_, fun _ => by simp [opd, twoD, oneD, settle, look, slotD, alias1, aliasL, lookL, asInt, asBool, fits, sizeLine, binV, cmpV, truthD, slV, biV, isTy, runF, startE, argsFit, lentBack, handBack, store_if, storeN_if, storeV, change, isOwn, io_fz, io_un, io_ow, io_io, ixL, augI, augV, callV, handOver, lentAt, shownAt, putBack, Res.need, slot, immV, isNoneD, negV, SeqAt.shaped, ev_ii, ev_bb, ev_ss, ev_tt, ev_ll, PyData.eqvAll, PyData.canLay0, PyData.canLayAll0, PyData.depth, PyData.depthAll], by simp [opd, twoD, oneD, settle, look, slotD, alias1, aliasL, lookL, asInt, asBool, fits, sizeLine, binV, cmpV, truthD, slV, biV, isTy, runF, startE, argsFit, lentBack, handBack, store_if, storeN_if, storeV, change, isOwn, io_fz, io_un, io_ow, io_io, ixL, augI, augV, callV, handOver, lentAt, shownAt, putBack, Res.need, slot, immV, isNoneD, negV, SeqAt.shaped, ev_ii, ev_bb, ev_ss, ev_tt, ev_ll, PyData.eqvAll, PyData.canLay0, PyData.canLayAll0, PyData.depth, PyData.depthAll, wipeE]⟩
              generalize ps.filter (fun x => row.any (· == x)) = L at hcI ⊢
              have c1 := canL_ints L
              have c2 := depL_ints L
              have c3 : (L.map PyData.int).isEmpty = L.isEmpty := by cases L <;> rfl
              rw [cT_at, x_T_val, x_E_cmp, hcI]
              unfold twoD opd
              simp [opd, twoD, oneD, settle, look, slotD, alias1, aliasL, lookL, asInt, asBool, fits, sizeLine, binV, cmpV, truthD, slV, biV, isTy, runF, startE, argsFit, lentBack, handBack, store_if, storeN_if, storeV, change, isOwn, io_fz, io_un, io_ow, io_io, ixL, augI, augV, callV, handOver, lentAt, shownAt, putBack, Res.need, slot, immV, isNoneD, negV, SeqAt.shaped, ev_ii, ev_bb, ev_ss, ev_tt, ev_ll, PyData.eqvAll, PyData.canLay0, PyData.canLayAll0, PyData.depth, PyData.depthAll, c1, c2, eqvAll_nil, c3]
          rw [List.nil_append] at hT
          have hc := compif_run (own := [6]) (s_rows (m := m) (rows := rows) (call := callN P (n + 1)) (lo := lentIn P) (rest := [.fz (.tuple [tI ps, tI rs]), .fz (tI ps), .fz (tI rs), .un, .un, .un, .un])) hT
          have hre : restore [.fz (board m rows), .fz (.tuple [tI ps, tI rs]), .fz (tI ps), .fz (tI rs), .un, .un, .un, .un] [.fz (board m rows), .fz (.tuple [tI ps, tI rs]), .fz (tI ps), .fz (tI rs), .un, .un, .un, .un] [6] = [.fz (board m rows), .fz (.tuple [tI ps, tI rs]), .fz (tI ps), .fz (tI rs), .un, .un, .un, .un] := by simp [opd, twoD, oneD, settle, look, slotD, alias1, aliasL, lookL, asInt, asBool, fits, sizeLine, binV, cmpV, truthD, slV, biV, isTy, runF, startE, argsFit, lentBack, handBack, store_if, storeN_if, storeV, change, isOwn, io_fz, io_un, io_ow, io_io, ixL, augI, augV, callV, handOver, lentAt, shownAt, putBack, Res.need, slot, immV, isNoneD, negV, SeqAt.shaped, ev_ii, ev_bb, ev_ss, ev_tt, ev_ll, PyData.eqvAll, PyData.canLay0, PyData.canLayAll0, PyData.depth, PyData.depthAll, restore]
          rw [hre] at hc
          have hfe := filt_empty rows ps
          have e3 : nthS f__law_is_pair.body 3 = .ife (.val (.cmp .NotEq (.compif (.nm 6) (.nm 6) (.seq (.ix (.nm 0) (.c (.int (1))))) (.val (.cmp .Eq (.compif (.nm 7) (.nm 7) (.seq (.nm 2)) (.val (.cmp .In (.nm 7) (.nm 6))) [7]) (.lst .nil))) [6]) (.lst .nil))) (.cons (.ret (.c (.bool false))) .nil) .nil := rfl
          have ht3 : evT (callN P (n + 1)) (lentIn P) (.val (.cmp .NotEq (.compif (.nm 6) (.nm 6) (.seq (.ix (.nm 0) (.c (.int (1))))) (.val (.cmp .Eq (.compif (.nm 7) (.nm 7) (.seq (.nm 2)) (.val (.cmp .In (.nm 7) (.nm 6))) [7]) (.lst .nil))) [6]) (.lst .nil))) [.fz (board m rows), .fz (.tuple [tI ps, tI rs]), .fz (tI ps), .fz (tI rs), .un, .un, .un, .un] = .ok (!meetsB rows ps, [.fz (board m rows), .fz (.tuple [tI ps, tI rs]), .fz (tI ps), .fz (tI rs), .un, .un, .un, .un]) := by
            rw [← hfe, x_T_val, x_E_cmp, hc]
            generalize rows.filter (fun row => (ps.filter fun x => row.any (· == x)).isEmpty) = L
            obtain ⟨c1, c2⟩ := shape_tIs L
            have c2' : PyData.depthAll (L.map tI) ≤ 63 := by omega
            have c3 : (L.map tI).isEmpty = L.isEmpty := by cases L <;> rfl
            unfold twoD opd
            simp [opd, twoD, oneD, settle, look, slotD, alias1, aliasL, lookL, asInt, asBool, fits, sizeLine, binV, cmpV, truthD, slV, biV, isTy, runF, startE, argsFit, lentBack, handBack, store_if, storeN_if, storeV, change, isOwn, io_fz, io_un, io_ow, io_io, ixL, augI, augV, callV, handOver, lentAt, shownAt, putBack, Res.need, slot, immV, isNoneD, negV, SeqAt.shaped, ev_ii, ev_bb, ev_ss, ev_tt, ev_ll, PyData.eqvAll, PyData.canLay0, PyData.canLayAll0, PyData.depth, PyData.depthAll, c1, c2', eqvAll_nil, c3]
          cases hmt : meetsB rows ps with
          | false =>
            rw [hmt] at ht3
            have hz : pairB m rows (.tuple [tI ps, tI rs]) = false := by simp only [pairB, ints1_tI, hmt, Bool.false_and, Bool.and_false]
            rw [hz]
            refine call_ret (fd := f__law_is_pair) (v := .d (.bool false)) (ρ1 := [.fz (board m rows), .fz (.tuple [tI ps, tI rs]), .fz (tI ps), .fz (tI rs), .un, .un, .un, .un]) rfl ⟨rfl, rfl⟩ ?_ rfl rfl
            rw [eb]
            refine (ss_nx s0).trans ((ss_nx s1).trans ((ss_nx s2).trans (ss_ret ?_)))
            rw [e3, x_S_ife, ht3]
            rfl
          | true =>
            rw [hmt] at ht3
            have s3 : evS (callN P (n + 1)) (lentIn P) (nthS f__law_is_pair.body 3) [.fz (board m rows), .fz (.tuple [tI ps, tI rs]), .fz (tI ps), .fz (tI rs), .un, .un, .un, .un] = .ok (.nx [.fz (board m rows), .fz (.tuple [tI ps, tI rs]), .fz (tI ps), .fz (tI rs), .un, .un, .un, .un]) := by
              rw [e3, x_S_ife, ht3]
              rfl
            have s4 : evS (callN P (n + 1)) (lentIn P) (nthS f__law_is_pair.body 4) [.fz (board m rows), .fz (.tuple [tI ps, tI rs]), .fz (tI ps), .fz (tI rs), .un, .un, .un, .un] = .ok (.nx [.fz (board m rows), .fz (.tuple [tI ps, tI rs]), .fz (tI ps), .fz (tI rs), .fz (.tuple []), .un, .un, .un]) := by
              simp [opd, twoD, oneD, settle, look, slotD, alias1, aliasL, lookL, asInt, asBool, fits, sizeLine, binV, cmpV, truthD, slV, biV, isTy, runF, startE, argsFit, lentBack, handBack, store_if, storeN_if, storeV, change, isOwn, io_fz, io_un, io_ow, io_io, ixL, augI, augV, callV, handOver, lentAt, shownAt, putBack, Res.need, slot, immV, isNoneD, negV, SeqAt.shaped, ev_ii, ev_bb, ev_ss, ev_tt, ev_ll, PyData.eqvAll, PyData.canLay0, PyData.canLayAll0, PyData.depth, PyData.depthAll, nthS, f__law_is_pair]
            obtain ⟨ρ', e5, s5v, rfl, h5⟩ := forTurns_ok (tg := .nm 5) (body := cB (callN P (n + 1)) (lentIn P) (.cons (.asg 4 false (.bin .Add (.nm 4) (.ix (.ix (.nm 0) (.c (.int (1)))) (.nm 5)))) .nil)) (xs := rs.map PyData.int) (ρ := [.fz (board m rows), .fz (.tuple [tI ps, tI rs]), .fz (tI ps), .fz (tI rs), .fz (.tuple []), .un, .un, .un])
              (fun k ρ => ∃ s, ρ = [.fz (board m rows), .fz (.tuple [tI ps, tI rs]), .fz (tI ps), .fz (tI rs), .fz (tI (colsAt rows (rs.take k))), s, .un, .un] ∧ isIo s = false) 0
              (fun j x ρ hj hI => by
                obtain ⟨s, rfl, hs⟩ := hI
                rw [List.getElem?_map] at hj
                cases hx : rs[j]? with
                | none => rw [hx] at hj; cases hj
                | some i =>
                  rw [hx] at hj
                  cases hj
                  have hmem := List.mem_of_getElem? hx
                  obtain ⟨i0, i1⟩ := rr2 i hmem
                  have ea := row_at (rows := rows) i0 i1
                  have hjl : j < rs.length := (List.getElem?_eq_some_iff.mp hx).1
                  have etk : rs.take (0 + j + 1) = rs.take j ++ [i] := by
                    rw [Nat.zero_add, List.take_add_one, hx]
                    rfl
                  have ecol : colsAt rows (rs.take (0 + j + 1)) = colsAt rows (rs.take j) ++ rows.getD i.toNat [] := by
                    rw [etk]
                    simp [opd, twoD, oneD, settle, look, slotD, alias1, aliasL, lookL, asInt, asBool, fits, sizeLine, binV, cmpV, truthD, slV, biV, isTy, runF, startE, argsFit, lentBack, handBack, store_if, storeN_if, storeV, change, isOwn, io_fz, io_un, io_ow, io_io, ixL, augI, augV, callV, handOver, lentAt, shownAt, putBack, Res.need, slot, immV, isNoneD, negV, SeqAt.shaped, ev_ii, ev_bb, ev_ss, ev_tt, ev_ll, PyData.eqvAll, PyData.canLay0, PyData.canLayAll0, PyData.depth, PyData.depthAll, colsAt]
                  have b1 := colsAt_len hr (rs.take (0 + j + 1))
                  have b2' : (rs.take (0 + j + 1)).length ≤ 64 := by rw [List.length_take]; omega
                  rw [ecol, List.length_append] at b1
                  have b3 : (colsAt rows (rs.take j)).length + (rows.getD i.toNat []).length ≤ 16777216 := by omega
                  have er := e_rows (m := m) (rows := rows) (call := callN P (n + 1)) (lo := lentIn P) (rest := [.fz (.tuple [tI ps, tI rs]), .fz (tI ps), .fz (tI rs), .fz (tI (colsAt rows (rs.take j))), .fz (.int i), .un, .un])
                  have eix : evE (callN P (n + 1)) (lentIn P) (.ix (.ix (.nm 0) (.c (.int (1)))) (.nm 5)) [.fz (board m rows), .fz (.tuple [tI ps, tI rs]), .fz (tI ps), .fz (tI rs), .fz (tI (colsAt rows (rs.take j))), .fz (.int i), .un, .un] = .ok (.d (tI (rows.getD i.toNat [])), [.fz (board m rows), .fz (.tuple [tI ps, tI rs]), .fz (tI ps), .fz (tI rs), .fz (tI (colsAt rows (rs.take j))), .fz (.int i), .un, .un]) := by
                    rw [x_E_ix, er]
                    unfold twoD opd
                    simp [opd, twoD, oneD, settle, look, slotD, alias1, aliasL, lookL, asInt, asBool, fits, sizeLine, binV, cmpV, truthD, slV, biV, isTy, runF, startE, argsFit, lentBack, handBack, store_if, storeN_if, storeV, change, isOwn, io_fz, io_un, io_ow, io_io, ixL, augI, augV, callV, handOver, lentAt, shownAt, putBack, Res.need, slot, immV, isNoneD, negV, SeqAt.shaped, ev_ii, ev_bb, ev_ss, ev_tt, ev_ll, PyData.eqvAll, PyData.canLay0, PyData.canLayAll0, PyData.depth, PyData.depthAll, ea]
                  refine ⟨[.fz (board m rows), .fz (.tuple [tI ps, tI rs]), .fz (tI ps), .fz (tI rs), .fz (tI (colsAt rows (rs.take j))), .fz (.int i), .un, .un], [.fz (board m rows), .fz (.tuple [tI ps, tI rs]), .fz (tI ps), .fz (tI rs), .fz (tI (colsAt rows (rs.take (0 + j + 1)))), .fz (.int i), .un, .un], by simp [opd, twoD, oneD, settle, look, slotD, alias1, aliasL, lookL, asInt, asBool, fits, sizeLine, binV, cmpV, truthD, slV, biV, isTy, runF, startE, argsFit, lentBack, handBack, store_if, storeN_if, storeV, change, isOwn, io_fz, io_un, io_ow, io_io, ixL, augI, augV, callV, handOver, lentAt, shownAt, putBack, Res.need, slot, immV, isNoneD, negV, SeqAt.shaped, ev_ii, ev_bb, ev_ss, ev_tt, ev_ll, PyData.eqvAll, PyData.canLay0, PyData.canLayAll0, PyData.depth, PyData.depthAll, storeTg, hs], ?_, .fz (.int i), rfl, rfl⟩
                  rw [ecol]
                  generalize rows.getD i.toNat [] = rw_ at *
                  simp only [Nat.zero_add] at *
                  simp [opd, twoD, oneD, settle, look, slotD, alias1, aliasL, lookL, asInt, asBool, fits, sizeLine, binV, cmpV, truthD, slV, biV, isTy, runF, startE, argsFit, lentBack, handBack, store_if, storeN_if, storeV, change, isOwn, io_fz, io_un, io_ow, io_io, ixL, augI, augV, callV, handOver, lentAt, shownAt, putBack, Res.need, slot, immV, isNoneD, negV, SeqAt.shaped, ev_ii, ev_bb, ev_ss, ev_tt, ev_ll, PyData.eqvAll, PyData.canLay0, PyData.canLayAll0, PyData.depth, PyData.depthAll, -x_E_ix, eix, b3]) ⟨.un, rfl, rfl⟩
            rw [List.length_map, Nat.zero_add, List.take_length] at e5
            have s5 : evS (callN P (n + 1)) (lentIn P) (nthS f__law_is_pair.body 5) [.fz (board m rows), .fz (.tuple [tI ps, tI rs]), .fz (tI ps), .fz (tI rs), .fz (.tuple []), .un, .un, .un] = .ok (.nx [.fz (board m rows), .fz (.tuple [tI ps, tI rs]), .fz (tI ps), .fz (tI rs), .fz (tI (colsAt rows rs)), s5v, .un, .un]) :=
              for_run (ρ1 := [.fz (board m rows), .fz (.tuple [tI ps, tI rs]), .fz (tI ps), .fz (tI rs), .fz (.tuple []), .un, .un, .un]) (xs := rs.map PyData.int) (by simp [opd, twoD, oneD, settle, look, slotD, alias1, aliasL, lookL, asInt, asBool, fits, sizeLine, binV, cmpV, truthD, slV, biV, isTy, runF, startE, argsFit, lentBack, handBack, store_if, storeN_if, storeV, change, isOwn, io_fz, io_un, io_ow, io_io, ixL, augI, augV, callV, handOver, lentAt, shownAt, putBack, Res.need, slot, immV, isNoneD, negV, SeqAt.shaped, ev_ii, ev_bb, ev_ss, ev_tt, ev_ll, PyData.eqvAll, PyData.canLay0, PyData.canLayAll0, PyData.depth, PyData.depthAll, seqOf]) e5
            have hcl := colsAt_len hr rs
            have hcl' : (colsAt rows rs).length ≤ 1000 := by omega
            have s6 : evS (callN P (n + 1)) (lentIn P) (nthS f__law_is_pair.body 6) [.fz (board m rows), .fz (.tuple [tI ps, tI rs]), .fz (tI ps), .fz (tI rs), .fz (tI (colsAt rows rs)), s5v, .un, .un] = .ok (.ret (.d (.bool (apartB rows rs))) [.fz (board m rows), .fz (.tuple [tI ps, tI rs]), .fz (tI ps), .fz (tI rs), .fz (tI (colsAt rows rs)), s5v, .un, .un]) := by
              have hq : (((dedupZ (colsAt rows rs)).length : Int) == ((colsAt rows rs).length : Int)) = apartB rows rs := by
                unfold apartB
                rw [Bool.eq_iff_iff, beq_iff_eq, beq_iff_eq]
                omega
              simp [opd, twoD, oneD, settle, look, slotD, alias1, aliasL, lookL, asInt, asBool, fits, sizeLine, binV, cmpV, truthD, slV, biV, isTy, runF, startE, argsFit, lentBack, handBack, store_if, storeN_if, storeV, change, isOwn, io_fz, io_un, io_ow, io_io, ixL, augI, augV, callV, handOver, lentAt, shownAt, putBack, Res.need, slot, immV, isNoneD, negV, SeqAt.shaped, ev_ii, ev_bb, ev_ss, ev_tt, ev_ll, PyData.eqvAll, PyData.canLay0, PyData.canLayAll0, PyData.depth, PyData.depthAll, nthS, f__law_is_pair, lenSetV, seqOf, asInts_ints, hcl', biV, hq]
            have hz : pairB m rows (.tuple [tI ps, tI rs]) = apartB rows rs := by
              simp only [pairB, ints1_tI, hmt, hp, hq, Bool.true_and]
              rw [beq_iff_eq.mpr hlen, Bool.true_and]
            rw [hz]
            refine call_ret (fd := f__law_is_pair) (v := .d (.bool (apartB rows rs))) (ρ1 := [.fz (board m rows), .fz (.tuple [tI ps, tI rs]), .fz (tI ps), .fz (tI rs), .fz (tI (colsAt rows rs)), s5v, .un, .un]) rfl ⟨rfl, rfl⟩ ?_ rfl rfl
            rw [eb]
            exact (ss_nx s0).trans ((ss_nx s1).trans ((ss_nx s2).trans ((ss_nx s3).trans ((ss_nx s4).trans ((ss_nx s5).trans (ss_ret s6))))))
        · have hlb : ((ps.length == rs.length) = false) := beq_eq_false_iff_ne.mpr hlen
          have hli : ¬ ((ps.length : Int) = (rs.length : Int)) := by omega
          exact out 0 (by rw [e2]; simp [opd, twoD, oneD, settle, look, slotD, alias1, aliasL, lookL, asInt, asBool, fits, sizeLine, binV, cmpV, truthD, slV, biV, isTy, runF, startE, argsFit, lentBack, handBack, store_if, storeN_if, storeV, change, isOwn, io_fz, io_un, io_ow, io_io, ixL, augI, augV, callV, handOver, lentAt, shownAt, putBack, Res.need, slot, immV, isNoneD, negV, SeqAt.shaped, ev_ii, ev_bb, ev_ss, ev_tt, ev_ll, PyData.eqvAll, PyData.canLay0, PyData.canLayAll0, PyData.depth, PyData.depthAll, -x_E_call, l1, l2, biV, hli]) (by simp only [pairB, ints1_tI, hlb, Bool.false_and, Bool.and_false])
  | _ => exact no _ (by simp [opd, twoD, oneD, settle, look, slotD, alias1, aliasL, lookL, asInt, asBool, fits, sizeLine, binV, cmpV, truthD, slV, biV, isTy, runF, startE, argsFit, lentBack, handBack, store_if, storeN_if, storeV, change, isOwn, io_fz, io_un, io_ow, io_io, ixL, augI, augV, callV, handOver, lentAt, shownAt, putBack, Res.need, slot, immV, isNoneD, negV, SeqAt.shaped, ev_ii, ev_bb, ev_ss, ev_tt, ev_ll, PyData.eqvAll, PyData.canLay0, PyData.canLayAll0, PyData.depth, PyData.depthAll]) (.inr rfl) rfl
end PX
namespace PX
open PySem PySem.Spec PyProof.Rows L2
theorem turns2_flat {β : Type} {tg tg1 : Tg} {own own1 : List Nat} {s1 : Env → Res (List D × Env)} {elt : Env → Res (Val × Env)} {ρ : Env} (g : β → D) (h k : β → List D) : ∀ {ys : List β} {acc : List D},
    (∀ y ∈ ys, ∃ ρ1 ρ2, storeTg ρ tg (g y) = some ρ1 ∧ s1 ρ1 = .ok (h y, ρ1) ∧ (∀ acc, turns tg1 own1 tT elt (h y) (wipeE ρ1 own1) acc = .ok (acc ++ k y, ρ2)) ∧ wipeE ρ2 own = ρ) →
    turns2 tg own s1 tg1 own1 elt (ys.map g) ρ acc = .ok (acc ++ (ys.map k).flatten, ρ)
  | [], acc, _ => by simp [opd, twoD, oneD, settle, look, slotD, alias1, aliasL, lookL, asInt, asBool, fits, sizeLine, binV, cmpV, truthD, slV, biV, isTy, runF, startE, argsFit, lentBack, handBack, store_if, storeN_if, storeV, change, isOwn, io_fz, io_un, io_ow, io_io, ixL, augI, augV, callV, handOver, lentAt, shownAt, putBack, Res.need, slot, immV, isNoneD, negV, SeqAt.shaped, ev_ii, ev_bb, ev_ss, ev_tt, ev_ll, PyData.eqvAll, PyData.canLay0, PyData.canLayAll0, PyData.depth, PyData.depthAll, turns2]
  | y :: ys, acc, hy => by
    obtain ⟨ρ1, ρ2, e1, e2, e3, e4⟩ := hy y List.mem_cons_self
    have ih := turns2_flat g h k (ys := ys) (acc := acc ++ k y) fun z hz => hy z (List.mem_cons_of_mem _ hz)
    have e3' := e3 acc
    unfold tT at e3'
    rw [List.map_cons]
    unfold turns2
    rw [e1, need_some, bind_ok, e2, bind_ok, e3', bind_ok, e4, ih]
    simp [opd, twoD, oneD, settle, look, slotD, alias1, aliasL, lookL, asInt, asBool, fits, sizeLine, binV, cmpV, truthD, slV, biV, isTy, runF, startE, argsFit, lentBack, handBack, store_if, storeN_if, storeV, change, isOwn, io_fz, io_un, io_ow, io_io, ixL, augI, augV, callV, handOver, lentAt, shownAt, putBack, Res.need, slot, immV, isNoneD, negV, SeqAt.shaped, ev_ii, ev_bb, ev_ss, ev_tt, ev_ll, PyData.eqvAll, PyData.canLay0, PyData.canLayAll0, PyData.depth, PyData.depthAll]
theorem comp2_run {call : CallT} {lo : String → Option (List Nat)} {elt : E} {tg tg1 : Tg} {src src1 : Src} {own own1 : List Nat} {ρ ρ1 ρ2 : Env} {xs acc : List D} (e : evSrc call lo src ρ = .ok (xs, ρ1)) (h : turns2 tg own (cSr call lo src1) tg1 own1 (cE call lo elt) xs (wipeE ρ1 own) [] = .ok (acc, ρ2)) (hf : acc.length ≤ sizeLine) :
    evE call lo (.comp2 elt tg src tg1 src1 own own1) ρ = .ok (.fr acc, restore ρ1 ρ2 own) := by
  rw [x_E_comp2, e, bind_ok, h, noEx_ok, bind_ok, if_pos (show fits acc.length = true from decide_eq_true hf)]
theorem c_are_apart (n : Nat) (L : List (List Int)) (hL : L.flatten.length ≤ 1000) : callN P (n + 1) "are_apart" [.fz (.list (L.map tI))] = .ok (.d (.bool ((dedupZ L.flatten).length == L.flatten.length)), []) := by
  have hT := turns2_flat (tg := .nm 2) (tg1 := .nm 3) (own := [2, 3]) (own1 := [3]) (s1 := cSr (callN P n) (lentIn P) (.seq (.nm 2))) (elt := cE (callN P n) (lentIn P) (.nm 3)) (ρ := [.fz (.list (L.map tI)), .un, .un, .un]) tI (fun r => r.map PyData.int) (fun r => r.map PyData.int) (ys := L) (acc := []) fun r _ => by
    refine ⟨[.fz (.list (L.map tI)), .un, .fz (tI r), .un], [.fz (.list (L.map tI)), .un, .fz (tI r), .un], by simp [opd, twoD, oneD, settle, look, slotD, alias1, aliasL, lookL, asInt, asBool, fits, sizeLine, binV, cmpV, truthD, slV, biV, isTy, runF, startE, argsFit, lentBack, handBack, store_if, storeN_if, storeV, change, isOwn, io_fz, io_un, io_ow, io_io, ixL, augI, augV, callV, handOver, lentAt, shownAt, putBack, Res.need, slot, immV, isNoneD, negV, SeqAt.shaped, ev_ii, ev_bb, ev_ss, ev_tt, ev_ll, PyData.eqvAll, PyData.canLay0, PyData.canLayAll0, PyData.depth, PyData.depthAll, storeTg], by simp [opd, twoD, oneD, settle, look, slotD, alias1, aliasL, lookL, asInt, asBool, fits, sizeLine, binV, cmpV, truthD, slV, biV, isTy, runF, startE, argsFit, lentBack, handBack, store_if, storeN_if, storeV, change, isOwn, io_fz, io_un, io_ow, io_io, ixL, augI, augV, callV, handOver, lentAt, shownAt, putBack, Res.need, slot, immV, isNoneD, negV, SeqAt.shaped, ev_ii, ev_bb, ev_ss, ev_tt, ev_ll, PyData.eqvAll, PyData.canLay0, PyData.canLayAll0, PyData.depth, PyData.depthAll, seqOf], fun acc => ?_, by simp [opd, twoD, oneD, settle, look, slotD, alias1, aliasL, lookL, asInt, asBool, fits, sizeLine, binV, cmpV, truthD, slV, biV, isTy, runF, startE, argsFit, lentBack, handBack, store_if, storeN_if, storeV, change, isOwn, io_fz, io_un, io_ow, io_io, ixL, augI, augV, callV, handOver, lentAt, shownAt, putBack, Res.need, slot, immV, isNoneD, negV, SeqAt.shaped, ev_ii, ev_bb, ev_ss, ev_tt, ev_ll, PyData.eqvAll, PyData.canLay0, PyData.canLayAll0, PyData.depth, PyData.depthAll, wipeE]⟩
    have := turns_mapG (tg := .nm 3) (own := [3]) (elt := cE (callN P n) (lentIn P) (.nm 3)) (ρ := [.fz (.list (L.map tI)), .un, .fz (tI r), .un]) PyData.int PyData.int (ys := r) (acc := acc) fun i _ => ⟨[.fz (.list (L.map tI)), .un, .fz (tI r), .fz (.int i)], by simp [opd, twoD, oneD, settle, look, slotD, alias1, aliasL, lookL, asInt, asBool, fits, sizeLine, binV, cmpV, truthD, slV, biV, isTy, runF, startE, argsFit, lentBack, handBack, store_if, storeN_if, storeV, change, isOwn, io_fz, io_un, io_ow, io_io, ixL, augI, augV, callV, handOver, lentAt, shownAt, putBack, Res.need, slot, immV, isNoneD, negV, SeqAt.shaped, ev_ii, ev_bb, ev_ss, ev_tt, ev_ll, PyData.eqvAll, PyData.canLay0, PyData.canLayAll0, PyData.depth, PyData.depthAll, storeTg], by simp [opd, twoD, oneD, settle, look, slotD, alias1, aliasL, lookL, asInt, asBool, fits, sizeLine, binV, cmpV, truthD, slV, biV, isTy, runF, startE, argsFit, lentBack, handBack, store_if, storeN_if, storeV, change, isOwn, io_fz, io_un, io_ow, io_io, ixL, augI, augV, callV, handOver, lentAt, shownAt, putBack, Res.need, slot, immV, isNoneD, negV, SeqAt.shaped, ev_ii, ev_bb, ev_ss, ev_tt, ev_ll, PyData.eqvAll, PyData.canLay0, PyData.canLayAll0, PyData.depth, PyData.depthAll], by simp [opd, twoD, oneD, settle, look, slotD, alias1, aliasL, lookL, asInt, asBool, fits, sizeLine, binV, cmpV, truthD, slV, biV, isTy, runF, startE, argsFit, lentBack, handBack, store_if, storeN_if, storeV, change, isOwn, io_fz, io_un, io_ow, io_io, ixL, augI, augV, callV, handOver, lentAt, shownAt, putBack, Res.need, slot, immV, isNoneD, negV, SeqAt.shaped, ev_ii, ev_bb, ev_ss, ev_tt, ev_ll, PyData.eqvAll, PyData.canLay0, PyData.canLayAll0, PyData.depth, PyData.depthAll, wipeE]⟩
    simpa [wipeE] using this
  have hfl : (L.map fun r => r.map PyData.int).flatten = L.flatten.map PyData.int := by rw [List.map_flatten]
  rw [List.nil_append, hfl] at hT
  have hS : evSrc (callN P n) (lentIn P) (.seq (.nm 0)) [.fz (.list (L.map tI)), .un, .un, .un] = .ok (L.map tI, [.fz (.list (L.map tI)), .un, .un, .un]) := by simp [opd, twoD, oneD, settle, look, slotD, alias1, aliasL, lookL, asInt, asBool, fits, sizeLine, binV, cmpV, truthD, slV, biV, isTy, runF, startE, argsFit, lentBack, handBack, store_if, storeN_if, storeV, change, isOwn, io_fz, io_un, io_ow, io_io, ixL, augI, augV, callV, handOver, lentAt, shownAt, putBack, Res.need, slot, immV, isNoneD, negV, SeqAt.shaped, ev_ii, ev_bb, ev_ss, ev_tt, ev_ll, PyData.eqvAll, PyData.canLay0, PyData.canLayAll0, PyData.depth, PyData.depthAll, seqOf]
  have hc := comp2_run (own := [2, 3]) (own1 := [3]) hS hT (by rw [List.length_map, sizeLine_eq]; omega)
  have hre : restore [.fz (.list (L.map tI)), .un, .un, .un] [.fz (.list (L.map tI)), .un, .un, .un] [2, 3] = [.fz (.list (L.map tI)), .un, .un, .un] := by simp [opd, twoD, oneD, settle, look, slotD, alias1, aliasL, lookL, asInt, asBool, fits, sizeLine, binV, cmpV, truthD, slV, biV, isTy, runF, startE, argsFit, lentBack, handBack, store_if, storeN_if, storeV, change, isOwn, io_fz, io_un, io_ow, io_io, ixL, augI, augV, callV, handOver, lentAt, shownAt, putBack, Res.need, slot, immV, isNoneD, negV, SeqAt.shaped, ev_ii, ev_bb, ev_ss, ev_tt, ev_ll, PyData.eqvAll, PyData.canLay0, PyData.canLayAll0, PyData.depth, PyData.depthAll, restore]
  rw [hre] at hc
  have s0 : evS (callN P n) (lentIn P) (nthS f_are_apart.body 0) [.fz (.list (L.map tI)), .un, .un, .un] = .ok (.nx [.fz (.list (L.map tI)), .fz (.list (L.flatten.map PyData.int)), .un, .un]) := by
    have e0 : nthS f_are_apart.body 0 = .asg 1 false (.comp2 (.nm 3) (.nm 2) (.seq (.nm 0)) (.nm 3) (.seq (.nm 2)) [2, 3] [3]) := rfl
    rw [e0, x_S_asg, hc]
    simp [opd, twoD, oneD, settle, look, slotD, alias1, aliasL, lookL, asInt, asBool, fits, sizeLine, binV, cmpV, truthD, slV, biV, isTy, runF, startE, argsFit, lentBack, handBack, store_if, storeN_if, storeV, change, isOwn, io_fz, io_un, io_ow, io_io, ixL, augI, augV, callV, handOver, lentAt, shownAt, putBack, Res.need, slot, immV, isNoneD, negV, SeqAt.shaped, ev_ii, ev_bb, ev_ss, ev_tt, ev_ll, PyData.eqvAll, PyData.canLay0, PyData.canLayAll0, PyData.depth, PyData.depthAll]
  have hq : (((dedupZ L.flatten).length : Int) == (L.flatten.length : Int)) = ((dedupZ L.flatten).length == L.flatten.length) := by
    rw [Bool.eq_iff_iff, beq_iff_eq, beq_iff_eq]
    omega
  have s1 : evS (callN P n) (lentIn P) (nthS f_are_apart.body 1) [.fz (.list (L.map tI)), .fz (.list (L.flatten.map PyData.int)), .un, .un] = .ok (.ret (.d (.bool ((dedupZ L.flatten).length == L.flatten.length))) [.fz (.list (L.map tI)), .fz (.list (L.flatten.map PyData.int)), .un, .un]) := by
    generalize L.flatten = F at *
    simp [opd, twoD, oneD, settle, look, slotD, alias1, aliasL, lookL, asInt, asBool, fits, sizeLine, binV, cmpV, truthD, slV, biV, isTy, runF, startE, argsFit, lentBack, handBack, store_if, storeN_if, storeV, change, isOwn, io_fz, io_un, io_ow, io_io, ixL, augI, augV, callV, handOver, lentAt, shownAt, putBack, Res.need, slot, immV, isNoneD, negV, SeqAt.shaped, ev_ii, ev_bb, ev_ss, ev_tt, ev_ll, PyData.eqvAll, PyData.canLay0, PyData.canLayAll0, PyData.depth, PyData.depthAll, nthS, f_are_apart, lenSetV, seqOf, asInts_ints, hL, biV, hq]
  exact call_ret (fd := f_are_apart) rfl ⟨rfl, rfl⟩ ((ss_nx s0).trans (ss_ret s1)) rfl rfl
theorem meets_sym (rows : List (List Int)) (ps : List Int) : (rows.all fun row => row.any fun c => ps.any (· == c)) = meetsB rows ps := by
  unfold meetsB
  congr 1
  funext r
  rw [Bool.eq_iff_iff, List.any_eq_true, List.any_eq_true]
  constructor
  · rintro ⟨c, hc, h⟩
    obtain ⟨x, hx, e⟩ := List.any_eq_true.mp h
    rw [beq_iff_eq.mp e] at hx
    exact ⟨c, hx, List.any_eq_true.mpr ⟨c, hc, by simp [opd, twoD, oneD, settle, look, slotD, alias1, aliasL, lookL, asInt, asBool, fits, sizeLine, binV, cmpV, truthD, slV, biV, isTy, runF, startE, argsFit, lentBack, handBack, store_if, storeN_if, storeV, change, isOwn, io_fz, io_un, io_ow, io_io, ixL, augI, augV, callV, handOver, lentAt, shownAt, putBack, Res.need, slot, immV, isNoneD, negV, SeqAt.shaped, ev_ii, ev_bb, ev_ss, ev_tt, ev_ll, PyData.eqvAll, PyData.canLay0, PyData.canLayAll0, PyData.depth, PyData.depthAll]⟩⟩
  · rintro ⟨x, hx, h⟩
    obtain ⟨c, hc, e⟩ := List.any_eq_true.mp h
    rw [beq_iff_eq.mp e] at hc
    exact ⟨x, hc, List.any_eq_true.mpr ⟨x, hx, by simp [opd, twoD, oneD, settle, look, slotD, alias1, aliasL, lookL, asInt, asBool, fits, sizeLine, binV, cmpV, truthD, slV, biV, isTy, runF, startE, argsFit, lentBack, handBack, store_if, storeN_if, storeV, change, isOwn, io_fz, io_un, io_ow, io_io, ixL, augI, augV, callV, handOver, lentAt, shownAt, putBack, Res.need, slot, immV, isNoneD, negV, SeqAt.shaped, ev_ii, ev_bb, ev_ss, ev_tt, ev_ll, PyData.eqvAll, PyData.canLay0, PyData.canLayAll0, PyData.depth, PyData.depthAll]⟩⟩
theorem c_judge (n : Nat) {m : Nat} {rows : List (List Int)} (hb : ∀ r ∈ rows, RowZ m r) (hr : ∀ r ∈ rows, r.length ≤ 10) {v : D} (hv : ∀ p r, v = .tuple [p, r] → okSide p ∧ okSide r) :
    callN P (n + 7) "judge_points" [.fz (board m rows), .fz v] = .ok (.d (.bool (!(rows.any (·.isEmpty)) && pairB m rows v)), []) := by
  have eb : f_judge_points.body = .cons (nthS f_judge_points.body 0) (.cons (nthS f_judge_points.body 1) (.cons (nthS f_judge_points.body 2) (.cons (nthS f_judge_points.body 3) (.cons (nthS f_judge_points.body 4) (.cons (nthS f_judge_points.body 5) .nil))))) := rfl
  have s0 : evS (callN P (n + 6)) (lentIn P) (nthS f_judge_points.body 0) [.fz (board m rows), .fz v, .un, .un, .un, .un, .un] = .ok (.nx [.fz (board m rows), .fz v, .un, .un, .un, .un, .un]) := by
    have e := c_check_table n (board m rows) (board_ok hb)
    simp [opd, twoD, oneD, settle, look, slotD, alias1, aliasL, lookL, asInt, asBool, fits, sizeLine, binV, cmpV, truthD, slV, biV, isTy, runF, startE, argsFit, lentBack, handBack, store_if, storeN_if, storeV, change, isOwn, io_fz, io_un, io_ow, io_io, ixL, augI, augV, callV, handOver, lentAt, shownAt, putBack, Res.need, slot, immV, isNoneD, negV, SeqAt.shaped, ev_ii, ev_bb, ev_ss, ev_tt, ev_ll, PyData.eqvAll, PyData.canLay0, PyData.canLayAll0, PyData.depth, PyData.depthAll, nthS, f_judge_points, l_check_table, e]
  have e1 : nthS f_judge_points.body 1 = .ife (.or (.val (.cmp .In (.tup .nil) (.ix (.nm 0) (.c (.int (1)))))) (.or (.not (.val (.isi (.nm 1) .tuple))) (.val (.cmp .NotEq (.bi .len (.cons (.nm 1) .nil)) (.c (.int (2))))))) (.cons (.ret (.c (.bool false))) .nil) .nil := rfl
  have hin := e_empty (m := m) (rows := rows) (call := callN P (n + 6)) (lo := lentIn P) (rest := [.fz v, .un, .un, .un, .un, .un])
  -- a value that is no pair
  have out1 : evS (callN P (n + 6)) (lentIn P) (nthS f_judge_points.body 1) [.fz (board m rows), .fz v, .un, .un, .un, .un, .un] = .ok (.ret (.d (.bool false)) [.fz (board m rows), .fz v, .un, .un, .un, .un, .un]) → (!(rows.any (·.isEmpty)) && pairB m rows v) = false → callN P (n + 7) "judge_points" [.fz (board m rows), .fz v] = .ok (.d (.bool (!(rows.any (·.isEmpty)) && pairB m rows v)), []) := fun hs hz => by
    rw [hz]
    refine call_ret (fd := f_judge_points) (v := .d (.bool false)) (ρ1 := [.fz (board m rows), .fz v, .un, .un, .un, .un, .un]) rfl ⟨rfl, rfl⟩ ?_ rfl rfl
    rw [eb]
    exact (ss_nx s0).trans (ss_ret hs)
  cases hemp : rows.any (·.isEmpty) with
  | true =>
    rw [hemp] at hin
    have := out1 (by rw [e1, x_S_ife, x_T_or, x_T_val, hin]; simp [opd, twoD, oneD, settle, look, slotD, alias1, aliasL, lookL, asInt, asBool, fits, sizeLine, binV, cmpV, truthD, slV, biV, isTy, runF, startE, argsFit, lentBack, handBack, store_if, storeN_if, storeV, change, isOwn, io_fz, io_un, io_ow, io_io, ixL, augI, augV, callV, handOver, lentAt, shownAt, putBack, Res.need, slot, immV, isNoneD, negV, SeqAt.shaped, ev_ii, ev_bb, ev_ss, ev_tt, ev_ll, PyData.eqvAll, PyData.canLay0, PyData.canLayAll0, PyData.depth, PyData.depthAll]) (by rw [hemp]; rfl)
    rw [hemp] at this
    exact this
  | false =>
  rw [hemp] at hin
  rw [hemp] at out1
  rw [Bool.not_false, Bool.true_and] at out1 ⊢
  have hin2 : evT (callN P (n + 6)) (lentIn P) (.val (.cmp .In (.tup .nil) (.ix (.nm 0) (.c (.int (1)))))) [.fz (board m rows), .fz v, .un, .un, .un, .un, .un] = .ok (false, [.fz (board m rows), .fz v, .un, .un, .un, .un, .un]) := by
    rw [x_T_val, hin]
    simp [opd, twoD, oneD, settle, look, slotD, alias1, aliasL, lookL, asInt, asBool, fits, sizeLine, binV, cmpV, truthD, slV, biV, isTy, runF, startE, argsFit, lentBack, handBack, store_if, storeN_if, storeV, change, isOwn, io_fz, io_un, io_ow, io_io, ixL, augI, augV, callV, handOver, lentAt, shownAt, putBack, Res.need, slot, immV, isNoneD, negV, SeqAt.shaped, ev_ii, ev_bb, ev_ss, ev_tt, ev_ll, PyData.eqvAll, PyData.canLay0, PyData.canLayAll0, PyData.depth, PyData.depthAll]
  cases v with
  | tuple xs =>
    match xs, hv, out1, hin2, s0 with
    | [], _, out1, hin2, _ => exact out1 (by rw [e1, x_S_ife, x_T_or, hin2]; simp [opd, twoD, oneD, settle, look, slotD, alias1, aliasL, lookL, asInt, asBool, fits, sizeLine, binV, cmpV, truthD, slV, biV, isTy, runF, startE, argsFit, lentBack, handBack, store_if, storeN_if, storeV, change, isOwn, io_fz, io_un, io_ow, io_io, ixL, augI, augV, callV, handOver, lentAt, shownAt, putBack, Res.need, slot, immV, isNoneD, negV, SeqAt.shaped, ev_ii, ev_bb, ev_ss, ev_tt, ev_ll, PyData.eqvAll, PyData.canLay0, PyData.canLayAll0, PyData.depth, PyData.depthAll, biV]) rfl
    | [a], _, out1, hin2, _ => exact out1 (by rw [e1, x_S_ife, x_T_or, hin2]; simp [opd, twoD, oneD, settle, look, slotD, alias1, aliasL, lookL, asInt, asBool, fits, sizeLine, binV, cmpV, truthD, slV, biV, isTy, runF, startE, argsFit, lentBack, handBack, store_if, storeN_if, storeV, change, isOwn, io_fz, io_un, io_ow, io_io, ixL, augI, augV, callV, handOver, lentAt, shownAt, putBack, Res.need, slot, immV, isNoneD, negV, SeqAt.shaped, ev_ii, ev_bb, ev_ss, ev_tt, ev_ll, PyData.eqvAll, PyData.canLay0, PyData.canLayAll0, PyData.depth, PyData.depthAll, biV]) rfl
    | a :: b :: c :: xs, _, out1, hin2, _ =>
      have e : ¬ ((xs.length : Int) + 1 + 1 + 1 = 2) := by omega
      exact out1 (by rw [e1, x_S_ife, x_T_or, hin2]; simp [opd, twoD, oneD, settle, look, slotD, alias1, aliasL, lookL, asInt, asBool, fits, sizeLine, binV, cmpV, truthD, slV, biV, isTy, runF, startE, argsFit, lentBack, handBack, store_if, storeN_if, storeV, change, isOwn, io_fz, io_un, io_ow, io_io, ixL, augI, augV, callV, handOver, lentAt, shownAt, putBack, Res.need, slot, immV, isNoneD, negV, SeqAt.shaped, ev_ii, ev_bb, ev_ss, ev_tt, ev_ll, PyData.eqvAll, PyData.canLay0, PyData.canLayAll0, PyData.depth, PyData.depthAll, biV, e]) rfl
    | [p, r], hv, out1, hin2, s0 =>
      obtain ⟨okp, okr⟩ := hv p r rfl
      have s1 : evS (callN P (n + 6)) (lentIn P) (nthS f_judge_points.body 1) [.fz (board m rows), .fz (.tuple [p, r]), .un, .un, .un, .un, .un] = .ok (.nx [.fz (board m rows), .fz (.tuple [p, r]), .un, .un, .un, .un, .un]) := by
        rw [e1, x_S_ife, x_T_or, hin2]
        simp [opd, twoD, oneD, settle, look, slotD, alias1, aliasL, lookL, asInt, asBool, fits, sizeLine, binV, cmpV, truthD, slV, biV, isTy, runF, startE, argsFit, lentBack, handBack, store_if, storeN_if, storeV, change, isOwn, io_fz, io_un, io_ow, io_io, ixL, augI, augV, callV, handOver, lentAt, shownAt, putBack, Res.need, slot, immV, isNoneD, negV, SeqAt.shaped, ev_ii, ev_bb, ev_ss, ev_tt, ev_ll, PyData.eqvAll, PyData.canLay0, PyData.canLayAll0, PyData.depth, PyData.depthAll, biV]
      have s2 : evS (callN P (n + 6)) (lentIn P) (nthS f_judge_points.body 2) [.fz (board m rows), .fz (.tuple [p, r]), .un, .un, .un, .un, .un] = .ok (.nx [.fz (board m rows), .fz (.tuple [p, r]), .fz p, .fz r, .un, .un, .un]) := by
        simp [opd, twoD, oneD, settle, look, slotD, alias1, aliasL, lookL, asInt, asBool, fits, sizeLine, binV, cmpV, truthD, slV, biV, isTy, runF, startE, argsFit, lentBack, handBack, store_if, storeN_if, storeV, change, isOwn, io_fz, io_un, io_ow, io_io, ixL, augI, augV, callV, handOver, lentAt, shownAt, putBack, Res.need, slot, immV, isNoneD, negV, SeqAt.shaped, ev_ii, ev_bb, ev_ss, ev_tt, ev_ll, PyData.eqvAll, PyData.canLay0, PyData.canLayAll0, PyData.depth, PyData.depthAll, nthS, f_judge_points, storeTg, storeAll]
      have a1 := c_is_set_below (n + 1) p m
      have a2 := c_is_set_below (n + 1) r rows.length
      have l1 : evE (callN P (n + 6)) (lentIn P) (.call "is_set_below" (.cons (.nm 2) (.cons (.ix (.nm 0) (.c (.int (0)))) .nil))) [.fz (board m rows), .fz (.tuple [p, r]), .fz p, .fz r, .un, .un, .un] = .ok (.d (.bool (setB m p)), [.fz (board m rows), .fz (.tuple [p, r]), .fz p, .fz r, .un, .un, .un]) := by
        have := e_many (m := m) (rows := rows) (call := callN P (n + 6)) (lo := lentIn P) (rest := [.fz (.tuple [p, r]), .fz p, .fz r, .un, .un, .un])
        simp [opd, twoD, oneD, settle, look, slotD, alias1, aliasL, lookL, asInt, asBool, fits, sizeLine, binV, cmpV, truthD, slV, biV, isTy, runF, startE, argsFit, lentBack, handBack, store_if, storeN_if, storeV, change, isOwn, io_fz, io_un, io_ow, io_io, ixL, augI, augV, callV, handOver, lentAt, shownAt, putBack, Res.need, slot, immV, isNoneD, negV, SeqAt.shaped, ev_ii, ev_bb, ev_ss, ev_tt, ev_ll, PyData.eqvAll, PyData.canLay0, PyData.canLayAll0, PyData.depth, PyData.depthAll, -x_E_ix, this, l_is_set_below, a1]
      have l2 : evE (callN P (n + 6)) (lentIn P) (.call "is_set_below" (.cons (.nm 3) (.cons (.bi .len (.cons (.ix (.nm 0) (.c (.int (1)))) .nil)) .nil))) [.fz (board m rows), .fz (.tuple [p, r]), .fz p, .fz r, .un, .un, .un] = .ok (.d (.bool (setB rows.length r)), [.fz (board m rows), .fz (.tuple [p, r]), .fz p, .fz r, .un, .un, .un]) := by
        have := e_lenrows (m := m) (rows := rows) (call := callN P (n + 6)) (lo := lentIn P) (rest := [.fz (.tuple [p, r]), .fz p, .fz r, .un, .un, .un])
        simp [opd, twoD, oneD, settle, look, slotD, alias1, aliasL, lookL, asInt, asBool, fits, sizeLine, binV, cmpV, truthD, slV, biV, isTy, runF, startE, argsFit, lentBack, handBack, store_if, storeN_if, storeV, change, isOwn, io_fz, io_un, io_ow, io_io, ixL, augI, augV, callV, handOver, lentAt, shownAt, putBack, Res.need, slot, immV, isNoneD, negV, SeqAt.shaped, ev_ii, ev_bb, ev_ss, ev_tt, ev_ll, PyData.eqvAll, PyData.canLay0, PyData.canLayAll0, PyData.depth, PyData.depthAll, -x_E_bi, this, l_is_set_below, a2]
      have e3 : nthS f_judge_points.body 3 = .ife (.or (.not (.val (.call "is_set_below" (.cons (.nm 2) (.cons (.ix (.nm 0) (.c (.int (0)))) .nil))))) (.or (.not (.val (.call "is_set_below" (.cons (.nm 3) (.cons (.bi .len (.cons (.ix (.nm 0) (.c (.int (1)))) .nil)) .nil))))) (.val (.cmp .NotEq (.bi .len (.cons (.nm 2) .nil)) (.bi .len (.cons (.nm 3) .nil)))))) (.cons (.ret (.c (.bool false))) .nil) .nil := rfl
      have out3 : evS (callN P (n + 6)) (lentIn P) (nthS f_judge_points.body 3) [.fz (board m rows), .fz (.tuple [p, r]), .fz p, .fz r, .un, .un, .un] = .ok (.ret (.d (.bool false)) [.fz (board m rows), .fz (.tuple [p, r]), .fz p, .fz r, .un, .un, .un]) → pairB m rows (.tuple [p, r]) = false → callN P (n + 7) "judge_points" [.fz (board m rows), .fz (.tuple [p, r])] = .ok (.d (.bool (pairB m rows (.tuple [p, r]))), []) := fun hs hz => by
        rw [hz]
        refine call_ret (fd := f_judge_points) (v := .d (.bool false)) (ρ1 := [.fz (board m rows), .fz (.tuple [p, r]), .fz p, .fz r, .un, .un, .un]) rfl ⟨rfl, rfl⟩ ?_ rfl rfl
        rw [eb]
        exact (ss_nx s0).trans ((ss_nx s1).trans ((ss_nx s2).trans (ss_ret hs)))
      cases hp : setB m p with
      | false =>
        rw [hp] at l1
        exact out3 (by rw [e3]; simp [opd, twoD, oneD, settle, look, slotD, alias1, aliasL, lookL, asInt, asBool, fits, sizeLine, binV, cmpV, truthD, slV, biV, isTy, runF, startE, argsFit, lentBack, handBack, store_if, storeN_if, storeV, change, isOwn, io_fz, io_un, io_ow, io_io, ixL, augI, augV, callV, handOver, lentAt, shownAt, putBack, Res.need, slot, immV, isNoneD, negV, SeqAt.shaped, ev_ii, ev_bb, ev_ss, ev_tt, ev_ll, PyData.eqvAll, PyData.canLay0, PyData.canLayAll0, PyData.depth, PyData.depthAll, -x_E_call, l1]) (by simp [opd, twoD, oneD, settle, look, slotD, alias1, aliasL, lookL, asInt, asBool, fits, sizeLine, binV, cmpV, truthD, slV, biV, isTy, runF, startE, argsFit, lentBack, handBack, store_if, storeN_if, storeV, change, isOwn, io_fz, io_un, io_ow, io_io, ixL, augI, augV, callV, handOver, lentAt, shownAt, putBack, Res.need, slot, immV, isNoneD, negV, SeqAt.shaped, ev_ii, ev_bb, ev_ss, ev_tt, ev_ll, PyData.eqvAll, PyData.canLay0, PyData.canLayAll0, PyData.depth, PyData.depthAll, pairB, hp])
      | true =>
      cases hq : setB rows.length r with
      | false =>
        rw [hp] at l1
        rw [hq] at l2
        exact out3 (by rw [e3]; simp [opd, twoD, oneD, settle, look, slotD, alias1, aliasL, lookL, asInt, asBool, fits, sizeLine, binV, cmpV, truthD, slV, biV, isTy, runF, startE, argsFit, lentBack, handBack, store_if, storeN_if, storeV, change, isOwn, io_fz, io_un, io_ow, io_io, ixL, augI, augV, callV, handOver, lentAt, shownAt, putBack, Res.need, slot, immV, isNoneD, negV, SeqAt.shaped, ev_ii, ev_bb, ev_ss, ev_tt, ev_ll, PyData.eqvAll, PyData.canLay0, PyData.canLayAll0, PyData.depth, PyData.depthAll, -x_E_call, l1, l2]) (by simp [opd, twoD, oneD, settle, look, slotD, alias1, aliasL, lookL, asInt, asBool, fits, sizeLine, binV, cmpV, truthD, slV, biV, isTy, runF, startE, argsFit, lentBack, handBack, store_if, storeN_if, storeV, change, isOwn, io_fz, io_un, io_ow, io_io, ixL, augI, augV, callV, handOver, lentAt, shownAt, putBack, Res.need, slot, immV, isNoneD, negV, SeqAt.shaped, ev_ii, ev_bb, ev_ss, ev_tt, ev_ll, PyData.eqvAll, PyData.canLay0, PyData.canLayAll0, PyData.depth, PyData.depthAll, pairB, hp, hq])
      | true =>
      rw [hp] at l1
      rw [hq] at l2
      obtain ⟨ps, rfl, pp1, pp2⟩ := setB_is hp
      obtain ⟨rs, rfl, rr1, rr2⟩ := setB_is hq
      have hrl : rs.length < 64 := by have := (okr _ rfl).2; simpa using this
      by_cases hlen : ps.length = rs.length
      · have s3 : evS (callN P (n + 6)) (lentIn P) (nthS f_judge_points.body 3) [.fz (board m rows), .fz (.tuple [tI ps, tI rs]), .fz (tI ps), .fz (tI rs), .un, .un, .un] = .ok (.nx [.fz (board m rows), .fz (.tuple [tI ps, tI rs]), .fz (tI ps), .fz (tI rs), .un, .un, .un]) := by
          rw [e3]
          simp [opd, twoD, oneD, settle, look, slotD, alias1, aliasL, lookL, asInt, asBool, fits, sizeLine, binV, cmpV, truthD, slV, biV, isTy, runF, startE, argsFit, lentBack, handBack, store_if, storeN_if, storeV, change, isOwn, io_fz, io_un, io_ow, io_io, ixL, augI, augV, callV, handOver, lentAt, shownAt, putBack, Res.need, slot, immV, isNoneD, negV, SeqAt.shaped, ev_ii, ev_bb, ev_ss, ev_tt, ev_ll, PyData.eqvAll, PyData.canLay0, PyData.canLayAll0, PyData.depth, PyData.depthAll, -x_E_call, l1, l2, biV, hlen]
        have hT := turns_mapG (tg := .nm 4) (own := [4]) (ρ := [.fz (board m rows), .fz (.tuple [tI ps, tI rs]), .fz (tI ps), .fz (tI rs), .un, .un, .un]) (elt := cE (callN P (n + 6)) (lentIn P) (.bi .any (.cons (.comp (.cmp .In (.nm 5) (.nm 2)) (.nm 5) (.seq (.nm 4)) [5]) .nil)))
          (ys := rows) (acc := []) tI (fun row => .bool (row.any fun c => ps.any (· == c))) fun row _ => by
            have hI := turns_mapG (tg := .nm 5) (own := [5]) (ρ := [.fz (board m rows), .fz (.tuple [tI ps, tI rs]), .fz (tI ps), .fz (tI rs), .fz (tI row), .un, .un]) (elt := cE (callN P (n + 6)) (lentIn P) (.cmp .In (.nm 5) (.nm 2)))
              (ys := row) (acc := []) PyData.int (fun c => .bool (ps.any (· == c))) fun c _ => ⟨[.fz (board m rows), .fz (.tuple [tI ps, tI rs]), .fz (tI ps), .fz (tI rs), .fz (tI row), .fz (.int c), .un], by simp [opd, twoD, oneD, settle, look, slotD, alias1, aliasL, lookL, asInt, asBool, fits, sizeLine, binV, cmpV, truthD, slV, biV, isTy, runF, startE, argsFit, lentBack, handBack, store_if, storeN_if, storeV, change, isOwn, io_fz, io_un, io_ow, io_io, ixL, augI, augV, callV, handOver, lentAt, shownAt, putBack, Res.need, slot, immV, isNoneD, negV, SeqAt.shaped, ev_ii, ev_bb, ev_ss, ev_tt, ev_ll, PyData.eqvAll, PyData.canLay0, PyData.canLayAll0, PyData.depth, PyData.depthAll, storeTg], by simp [opd, twoD, oneD, settle, look, slotD, alias1, aliasL, lookL, asInt, asBool, fits, sizeLine, binV, cmpV, truthD, slV, biV, isTy, runF, startE, argsFit, lentBack, handBack, store_if, storeN_if, storeV, change, isOwn, io_fz, io_un, io_ow, io_io, ixL, augI, augV, callV, handOver, lentAt, shownAt, putBack, Res.need, slot, immV, isNoneD, negV, SeqAt.shaped, ev_ii, ev_bb, ev_ss, ev_tt, ev_ll, PyData.eqvAll, PyData.canLay0, PyData.canLayAll0, PyData.depth, PyData.depthAll, flatD, flat_ints, inD_ints], by simp [opd, twoD, oneD, settle, look, slotD, alias1, aliasL, lookL, asInt, asBool, fits, sizeLine, binV, cmpV, truthD, slV, biV, isTy, runF, startE, argsFit, lentBack, handBack, store_if, storeN_if, storeV, change, isOwn, io_fz, io_un, io_ow, io_io, ixL, augI, augV, callV, handOver, lentAt, shownAt, putBack, Res.need, slot, immV, isNoneD, negV, SeqAt.shaped, ev_ii, ev_bb, ev_ss, ev_tt, ev_ll, PyData.eqvAll, PyData.canLay0, PyData.canLayAll0, PyData.depth, PyData.depthAll, wipeE]⟩
            rw [List.nil_append] at hI
            have hSI : evSrc (callN P (n + 6)) (lentIn P) (.seq (.nm 4)) [.fz (board m rows), .fz (.tuple [tI ps, tI rs]), .fz (tI ps), .fz (tI rs), .fz (tI row), .un, .un] = .ok (row.map PyData.int, [.fz (board m rows), .fz (.tuple [tI ps, tI rs]), .fz (tI ps), .fz (tI rs), .fz (tI row), .un, .un]) := by simp [opd, twoD, oneD, settle, look, slotD, alias1, aliasL, lookL, asInt, asBool, fits, sizeLine, binV, cmpV, truthD, slV, biV, isTy, runF, startE, argsFit, lentBack, handBack, store_if, storeN_if, storeV, change, isOwn, io_fz, io_un, io_ow, io_io, ixL, augI, augV, callV, handOver, lentAt, shownAt, putBack, Res.need, slot, immV, isNoneD, negV, SeqAt.shaped, ev_ii, ev_bb, ev_ss, ev_tt, ev_ll, PyData.eqvAll, PyData.canLay0, PyData.canLayAll0, PyData.depth, PyData.depthAll, seqOf]
            have hcI := comp_run (own := [5]) hSI hI
            have hre : restore [.fz (board m rows), .fz (.tuple [tI ps, tI rs]), .fz (tI ps), .fz (tI rs), .fz (tI row), .un, .un] [.fz (board m rows), .fz (.tuple [tI ps, tI rs]), .fz (tI ps), .fz (tI rs), .fz (tI row), .un, .un] [5] = [.fz (board m rows), .fz (.tuple [tI ps, tI rs]), .fz (tI ps), .fz (tI rs), .fz (tI row), .un, .un] := by simp [opd, twoD, oneD, settle, look, slotD, alias1, aliasL, lookL, asInt, asBool, fits, sizeLine, binV, cmpV, truthD, slV, biV, isTy, runF, startE, argsFit, lentBack, handBack, store_if, storeN_if, storeV, change, isOwn, io_fz, io_un, io_ow, io_io, ixL, augI, augV, callV, handOver, lentAt, shownAt, putBack, Res.need, slot, immV, isNoneD, negV, SeqAt.shaped, ev_ii, ev_bb, ev_ss, ev_tt, ev_ll, PyData.eqvAll, PyData.canLay0, PyData.canLayAll0, PyData.depth, PyData.depthAll, restore]
            rw [hre] at hcI
            refine ⟨[.fz (board m rows), .fz (.tuple [tI ps, tI rs]), .fz (tI ps), .fz (tI rs), .fz (tI row), .un, .un], by simp [opd, twoD, oneD, settle, look, slotD, alias1, aliasL, lookL, asInt, asBool, fits, sizeLine, binV, cmpV, truthD, slV, biV, isTy, runF, startE, argsFit, lentBack, handBack, store_if, storeN_if, storeV, change, isOwn, io_fz, io_un, io_ow, io_io, ixL, augI, augV, callV, handOver, lentAt, shownAt, putBack, Res.need, slot, immV, isNoneD, negV, SeqAt.shaped, ev_ii, ev_bb, ev_ss, ev_tt, ev_ll, PyData.eqvAll, PyData.canLay0, PyData.canLayAll0, PyData.depth, PyData.depthAll, storeTg], ?_, by simp [opd, twoD, oneD, settle, look, slotD, alias1, aliasL, lookL, asInt, asBool, fits, sizeLine, binV, cmpV, truthD, slV, biV, isTy, runF, startE, argsFit, lentBack, handBack, store_if, storeN_if, storeV, change, isOwn, io_fz, io_un, io_ow, io_io, ixL, augI, augV, callV, handOver, lentAt, shownAt, putBack, Res.need, slot, immV, isNoneD, negV, SeqAt.shaped, ev_ii, ev_bb, ev_ss, ev_tt, ev_ll, PyData.eqvAll, PyData.canLay0, PyData.canLayAll0, PyData.depth, PyData.depthAll, wipeE]⟩
            simp [opd, twoD, oneD, settle, look, slotD, alias1, aliasL, lookL, asInt, asBool, fits, sizeLine, binV, cmpV, truthD, slV, biV, isTy, runF, startE, argsFit, lentBack, handBack, store_if, storeN_if, storeV, change, isOwn, io_fz, io_un, io_ow, io_io, ixL, augI, augV, callV, handOver, lentAt, shownAt, putBack, Res.need, slot, immV, isNoneD, negV, SeqAt.shaped, ev_ii, ev_bb, ev_ss, ev_tt, ev_ll, PyData.eqvAll, PyData.canLay0, PyData.canLayAll0, PyData.depth, PyData.depthAll, -x_E_comp, hcI, biV, asBools_map, List.any_map, Function.comp_def]
        rw [List.nil_append] at hT
        have hc := comp_run (own := [4]) (s_rows (m := m) (rows := rows) (call := callN P (n + 6)) (lo := lentIn P) (rest := [.fz (.tuple [tI ps, tI rs]), .fz (tI ps), .fz (tI rs), .un, .un, .un])) hT
        have hre : restore [.fz (board m rows), .fz (.tuple [tI ps, tI rs]), .fz (tI ps), .fz (tI rs), .un, .un, .un] [.fz (board m rows), .fz (.tuple [tI ps, tI rs]), .fz (tI ps), .fz (tI rs), .un, .un, .un] [4] = [.fz (board m rows), .fz (.tuple [tI ps, tI rs]), .fz (tI ps), .fz (tI rs), .un, .un, .un] := by simp [opd, twoD, oneD, settle, look, slotD, alias1, aliasL, lookL, asInt, asBool, fits, sizeLine, binV, cmpV, truthD, slV, biV, isTy, runF, startE, argsFit, lentBack, handBack, store_if, storeN_if, storeV, change, isOwn, io_fz, io_un, io_ow, io_io, ixL, augI, augV, callV, handOver, lentAt, shownAt, putBack, Res.need, slot, immV, isNoneD, negV, SeqAt.shaped, ev_ii, ev_bb, ev_ss, ev_tt, ev_ll, PyData.eqvAll, PyData.canLay0, PyData.canLayAll0, PyData.depth, PyData.depthAll, restore]
        rw [hre] at hc
        have hms := meets_sym rows ps
        have e4 : nthS f_judge_points.body 4 = .ife (.not (.val (.bi .all (.cons (.comp (.bi .any (.cons (.comp (.cmp .In (.nm 5) (.nm 2)) (.nm 5) (.seq (.nm 4)) [5]) .nil)) (.nm 4) (.seq (.ix (.nm 0) (.c (.int (1))))) [4]) .nil)))) (.cons (.ret (.c (.bool false))) .nil) .nil := rfl
        have ht4 : evT (callN P (n + 6)) (lentIn P) (.not (.val (.bi .all (.cons (.comp (.bi .any (.cons (.comp (.cmp .In (.nm 5) (.nm 2)) (.nm 5) (.seq (.nm 4)) [5]) .nil)) (.nm 4) (.seq (.ix (.nm 0) (.c (.int (1))))) [4]) .nil)))) [.fz (board m rows), .fz (.tuple [tI ps, tI rs]), .fz (tI ps), .fz (tI rs), .un, .un, .un] = .ok (!meetsB rows ps, [.fz (board m rows), .fz (.tuple [tI ps, tI rs]), .fz (tI ps), .fz (tI rs), .un, .un, .un]) := by
          rw [← hms]
          simp [opd, twoD, oneD, settle, look, slotD, alias1, aliasL, lookL, asInt, asBool, fits, sizeLine, binV, cmpV, truthD, slV, biV, isTy, runF, startE, argsFit, lentBack, handBack, store_if, storeN_if, storeV, change, isOwn, io_fz, io_un, io_ow, io_io, ixL, augI, augV, callV, handOver, lentAt, shownAt, putBack, Res.need, slot, immV, isNoneD, negV, SeqAt.shaped, ev_ii, ev_bb, ev_ss, ev_tt, ev_ll, PyData.eqvAll, PyData.canLay0, PyData.canLayAll0, PyData.depth, PyData.depthAll, -x_E_comp, hc, biV, asBools_map, List.all_map, Function.comp_def]
        cases hmt : meetsB rows ps with
        | false =>
          rw [hmt] at ht4
          have hz : pairB m rows (.tuple [tI ps, tI rs]) = false := by simp only [pairB, ints1_tI, hmt, Bool.false_and, Bool.and_false]
          rw [hz]
          refine call_ret (fd := f_judge_points) (v := .d (.bool false)) (ρ1 := [.fz (board m rows), .fz (.tuple [tI ps, tI rs]), .fz (tI ps), .fz (tI rs), .un, .un, .un]) rfl ⟨rfl, rfl⟩ ?_ rfl rfl
          rw [eb]
          refine (ss_nx s0).trans ((ss_nx s1).trans ((ss_nx s2).trans ((ss_nx s3).trans (ss_ret ?_))))
          rw [e4, x_S_ife, ht4]
          rfl
        | true =>
          rw [hmt] at ht4
          have s4 : evS (callN P (n + 6)) (lentIn P) (nthS f_judge_points.body 4) [.fz (board m rows), .fz (.tuple [tI ps, tI rs]), .fz (tI ps), .fz (tI rs), .un, .un, .un] = .ok (.nx [.fz (board m rows), .fz (.tuple [tI ps, tI rs]), .fz (tI ps), .fz (tI rs), .un, .un, .un]) := by
            rw [e4, x_S_ife, ht4]
            rfl
          have hT5 := turns_mapG (tg := .nm 6) (own := [6]) (ρ := [.fz (board m rows), .fz (.tuple [tI ps, tI rs]), .fz (tI ps), .fz (tI rs), .un, .un, .un]) (elt := cE (callN P (n + 6)) (lentIn P) (.ix (.ix (.nm 0) (.c (.int (1)))) (.nm 6)))
            (ys := rs) (acc := []) PyData.int (fun i => tI (rows.getD i.toNat [])) fun i hi => by
              obtain ⟨i0, i1⟩ := rr2 i hi
              have ea := row_at (rows := rows) i0 i1
              have er := e_rows (m := m) (rows := rows) (call := callN P (n + 6)) (lo := lentIn P) (rest := [.fz (.tuple [tI ps, tI rs]), .fz (tI ps), .fz (tI rs), .un, .un, .fz (.int i)])
              refine ⟨[.fz (board m rows), .fz (.tuple [tI ps, tI rs]), .fz (tI ps), .fz (tI rs), .un, .un, .fz (.int i)], by simp [opd, twoD, oneD, settle, look, slotD, alias1, aliasL, lookL, asInt, asBool, fits, sizeLine, binV, cmpV, truthD, slV, biV, isTy, runF, startE, argsFit, lentBack, handBack, store_if, storeN_if, storeV, change, isOwn, io_fz, io_un, io_ow, io_io, ixL, augI, augV, callV, handOver, lentAt, shownAt, putBack, Res.need, slot, immV, isNoneD, negV, SeqAt.shaped, ev_ii, ev_bb, ev_ss, ev_tt, ev_ll, PyData.eqvAll, PyData.canLay0, PyData.canLayAll0, PyData.depth, PyData.depthAll, storeTg], ?_, by simp [opd, twoD, oneD, settle, look, slotD, alias1, aliasL, lookL, asInt, asBool, fits, sizeLine, binV, cmpV, truthD, slV, biV, isTy, runF, startE, argsFit, lentBack, handBack, store_if, storeN_if, storeV, change, isOwn, io_fz, io_un, io_ow, io_io, ixL, augI, augV, callV, handOver, lentAt, shownAt, putBack, Res.need, slot, immV, isNoneD, negV, SeqAt.shaped, ev_ii, ev_bb, ev_ss, ev_tt, ev_ll, PyData.eqvAll, PyData.canLay0, PyData.canLayAll0, PyData.depth, PyData.depthAll, wipeE]⟩
              rw [cE_at, x_E_ix, er]
              unfold twoD opd
              simp [opd, twoD, oneD, settle, look, slotD, alias1, aliasL, lookL, asInt, asBool, fits, sizeLine, binV, cmpV, truthD, slV, biV, isTy, runF, startE, argsFit, lentBack, handBack, store_if, storeN_if, storeV, change, isOwn, io_fz, io_un, io_ow, io_io, ixL, augI, augV, callV, handOver, lentAt, shownAt, putBack, Res.need, slot, immV, isNoneD, negV, SeqAt.shaped, ev_ii, ev_bb, ev_ss, ev_tt, ev_ll, PyData.eqvAll, PyData.canLay0, PyData.canLayAll0, PyData.depth, PyData.depthAll, ea]
          rw [List.nil_append] at hT5
          have hS5 : evSrc (callN P (n + 6)) (lentIn P) (.seq (.nm 3)) [.fz (board m rows), .fz (.tuple [tI ps, tI rs]), .fz (tI ps), .fz (tI rs), .un, .un, .un] = .ok (rs.map PyData.int, [.fz (board m rows), .fz (.tuple [tI ps, tI rs]), .fz (tI ps), .fz (tI rs), .un, .un, .un]) := by simp [opd, twoD, oneD, settle, look, slotD, alias1, aliasL, lookL, asInt, asBool, fits, sizeLine, binV, cmpV, truthD, slV, biV, isTy, runF, startE, argsFit, lentBack, handBack, store_if, storeN_if, storeV, change, isOwn, io_fz, io_un, io_ow, io_io, ixL, augI, augV, callV, handOver, lentAt, shownAt, putBack, Res.need, slot, immV, isNoneD, negV, SeqAt.shaped, ev_ii, ev_bb, ev_ss, ev_tt, ev_ll, PyData.eqvAll, PyData.canLay0, PyData.canLayAll0, PyData.depth, PyData.depthAll, seqOf]
          have hc5 := comp_run (own := [6]) hS5 hT5
          have hre5 : restore [.fz (board m rows), .fz (.tuple [tI ps, tI rs]), .fz (tI ps), .fz (tI rs), .un, .un, .un] [.fz (board m rows), .fz (.tuple [tI ps, tI rs]), .fz (tI ps), .fz (tI rs), .un, .un, .un] [6] = [.fz (board m rows), .fz (.tuple [tI ps, tI rs]), .fz (tI ps), .fz (tI rs), .un, .un, .un] := by simp [opd, twoD, oneD, settle, look, slotD, alias1, aliasL, lookL, asInt, asBool, fits, sizeLine, binV, cmpV, truthD, slV, biV, isTy, runF, startE, argsFit, lentBack, handBack, store_if, storeN_if, storeV, change, isOwn, io_fz, io_un, io_ow, io_io, ixL, augI, augV, callV, handOver, lentAt, shownAt, putBack, Res.need, slot, immV, isNoneD, negV, SeqAt.shaped, ev_ii, ev_bb, ev_ss, ev_tt, ev_ll, PyData.eqvAll, PyData.canLay0, PyData.canLayAll0, PyData.depth, PyData.depthAll, restore]
          rw [hre5] at hc5
          have hcl := colsAt_len hr rs
          have hap := c_are_apart (n + 5) (rs.map fun i => rows.getD i.toNat []) (by show (colsAt rows rs).length ≤ 1000; omega)
          rw [List.map_map] at hap
          have hap : callN P (n + 6) "are_apart" [.fz (.list (rs.map fun i => tI (rows.getD i.toNat [])))] = .ok (.d (.bool (apartB rows rs)), []) := hap
          generalize (rs.map fun i => tI (rows.getD i.toNat [])) = L at hc5 hap
          have s5 : evS (callN P (n + 6)) (lentIn P) (nthS f_judge_points.body 5) [.fz (board m rows), .fz (.tuple [tI ps, tI rs]), .fz (tI ps), .fz (tI rs), .un, .un, .un] = .ok (.ret (.d (.bool (apartB rows rs))) [.fz (board m rows), .fz (.tuple [tI ps, tI rs]), .fz (tI ps), .fz (tI rs), .un, .un, .un]) := by
            simp [opd, twoD, oneD, settle, look, slotD, alias1, aliasL, lookL, asInt, asBool, fits, sizeLine, binV, cmpV, truthD, slV, biV, isTy, runF, startE, argsFit, lentBack, handBack, store_if, storeN_if, storeV, change, isOwn, io_fz, io_un, io_ow, io_io, ixL, augI, augV, callV, handOver, lentAt, shownAt, putBack, Res.need, slot, immV, isNoneD, negV, SeqAt.shaped, ev_ii, ev_bb, ev_ss, ev_tt, ev_ll, PyData.eqvAll, PyData.canLay0, PyData.canLayAll0, PyData.depth, PyData.depthAll, -x_E_comp, nthS, f_judge_points, hc5, l_are_apart, hap]
          have hz : pairB m rows (.tuple [tI ps, tI rs]) = apartB rows rs := by
            simp only [pairB, ints1_tI, hmt, hp, hq, Bool.true_and]
            rw [beq_iff_eq.mpr hlen, Bool.true_and]
          rw [hz]
          refine call_ret (fd := f_judge_points) (v := .d (.bool (apartB rows rs))) (ρ1 := [.fz (board m rows), .fz (.tuple [tI ps, tI rs]), .fz (tI ps), .fz (tI rs), .un, .un, .un]) rfl ⟨rfl, rfl⟩ ?_ rfl rfl
          rw [eb]
          exact (ss_nx s0).trans ((ss_nx s1).trans ((ss_nx s2).trans ((ss_nx s3).trans ((ss_nx s4).trans (ss_ret s5)))))
      · have hlb : ((ps.length == rs.length) = false) := beq_eq_false_iff_ne.mpr hlen
        have hli : ¬ ((ps.length : Int) = (rs.length : Int)) := by omega
        exact out3 (by rw [e3]; simp [opd, twoD, oneD, settle, look, slotD, alias1, aliasL, lookL, asInt, asBool, fits, sizeLine, binV, cmpV, truthD, slV, biV, isTy, runF, startE, argsFit, lentBack, handBack, store_if, storeN_if, storeV, change, isOwn, io_fz, io_un, io_ow, io_io, ixL, augI, augV, callV, handOver, lentAt, shownAt, putBack, Res.need, slot, immV, isNoneD, negV, SeqAt.shaped, ev_ii, ev_bb, ev_ss, ev_tt, ev_ll, PyData.eqvAll, PyData.canLay0, PyData.canLayAll0, PyData.depth, PyData.depthAll, -x_E_call, l1, l2, biV, hli]) (by simp only [pairB, ints1_tI, hlb, Bool.false_and, Bool.and_false])
  | _ => exact out1 (by rw [e1, x_S_ife, x_T_or, hin2]; simp [opd, twoD, oneD, settle, look, slotD, alias1, aliasL, lookL, asInt, asBool, fits, sizeLine, binV, cmpV, truthD, slV, biV, isTy, runF, startE, argsFit, lentBack, handBack, store_if, storeN_if, storeV, change, isOwn, io_fz, io_un, io_ow, io_io, ixL, augI, augV, callV, handOver, lentAt, shownAt, putBack, Res.need, slot, immV, isNoneD, negV, SeqAt.shaped, ev_ii, ev_bb, ev_ss, ev_tt, ev_ll, PyData.eqvAll, PyData.canLay0, PyData.canLayAll0, PyData.depth, PyData.depthAll]) rfl
end PX
namespace PX
open PySem PySem.Spec PyProof.Rows L2
theorem subset_len : ∀ {xs L : List Int}, xs.Nodup → (∀ x ∈ xs, x ∈ L) → xs.length ≤ L.length
  | [], L, _, _ => Nat.zero_le _
  | x :: xs, L, hn, hs => by
    have hx := hs x List.mem_cons_self
    have h1 := List.nodup_cons.mp hn
    have ih := subset_len (L := L.erase x) h1.2 fun y hy => by
      have hne : y ≠ x := fun e => h1.1 (e ▸ hy)
      exact (List.mem_erase_of_ne hne).mpr (hs y (List.mem_cons_of_mem _ hy))
    have := List.length_erase_of_mem hx
    have hp : 0 < L.length := List.length_pos_of_mem hx
    rw [List.length_cons]
    omega
theorem dedup_le : ∀ ns : List Int, (dedupZ ns).length ≤ ns.length
  | [] => Nat.le_refl _
  | n :: ns => by
    have := dedup_le ns
    unfold dedupZ
    split <;> simp only [List.length_cons] <;> omega
theorem dedup_full : ∀ {ns : List Int}, (dedupZ ns).length = ns.length → ns.Nodup
  | [], _ => List.Pairwise.nil
  | n :: ns, h => by
    have hl := dedup_le ns
    unfold dedupZ at h
    split at h
    · rw [List.length_cons] at h; omega
    · rename_i hc
      rw [List.length_cons, List.length_cons] at h
      exact List.nodup_cons.mpr ⟨fun z => hc (List.contains_iff_mem.mpr z), dedup_full (by omega)⟩
/-- of rows apart, each is met by another column -/
theorem pigeon (f : Int → List Int) (L : List Int) : ∀ {rs : List Int}, (rs.map f).flatten.Nodup → (∀ i ∈ rs, ∃ x ∈ L, x ∈ f i) → ∃ xs : List Int, xs.Nodup ∧ xs.length = rs.length ∧ (∀ x ∈ xs, x ∈ L) ∧ ∀ x ∈ xs, x ∈ (rs.map f).flatten
  | [], _, _ => ⟨[], List.Pairwise.nil, rfl, by simp [opd, twoD, oneD, settle, look, slotD, alias1, aliasL, lookL, asInt, asBool, fits, sizeLine, binV, cmpV, truthD, slV, biV, isTy, runF, startE, argsFit, lentBack, handBack, store_if, storeN_if, storeV, change, isOwn, io_fz, io_un, io_ow, io_io, ixL, augI, augV, callV, handOver, lentAt, shownAt, putBack, Res.need, slot, immV, isNoneD, negV, SeqAt.shaped, ev_ii, ev_bb, ev_ss, ev_tt, ev_ll, PyData.eqvAll, PyData.canLay0, PyData.canLayAll0, PyData.depth, PyData.depthAll], by simp [opd, twoD, oneD, settle, look, slotD, alias1, aliasL, lookL, asInt, asBool, fits, sizeLine, binV, cmpV, truthD, slV, biV, isTy, runF, startE, argsFit, lentBack, handBack, store_if, storeN_if, storeV, change, isOwn, io_fz, io_un, io_ow, io_io, ixL, augI, augV, callV, handOver, lentAt, shownAt, putBack, Res.need, slot, immV, isNoneD, negV, SeqAt.shaped, ev_ii, ev_bb, ev_ss, ev_tt, ev_ll, PyData.eqvAll, PyData.canLay0, PyData.canLayAll0, PyData.depth, PyData.depthAll]⟩
  | i :: rs, hn, hm => by
    rw [List.map_cons, List.flatten_cons, List.nodup_append] at hn
    obtain ⟨xs, h1, h2, h3, h4⟩ := pigeon f L hn.2.1 fun j hj => hm j (List.mem_cons_of_mem _ hj)
    obtain ⟨x, hx, hxi⟩ := hm i List.mem_cons_self
    refine ⟨x :: xs, List.nodup_cons.mpr ⟨fun z => hn.2.2 x hxi x (h4 x z) rfl, h1⟩, by simp [opd, twoD, oneD, settle, look, slotD, alias1, aliasL, lookL, asInt, asBool, fits, sizeLine, binV, cmpV, truthD, slV, biV, isTy, runF, startE, argsFit, lentBack, handBack, store_if, storeN_if, storeV, change, isOwn, io_fz, io_un, io_ow, io_io, ixL, augI, augV, callV, handOver, lentAt, shownAt, putBack, Res.need, slot, immV, isNoneD, negV, SeqAt.shaped, ev_ii, ev_bb, ev_ss, ev_tt, ev_ll, PyData.eqvAll, PyData.canLay0, PyData.canLayAll0, PyData.depth, PyData.depthAll, h2], fun y hy => ?_, fun y hy => ?_⟩
    · rcases List.mem_cons.mp hy with rfl | hy
      · exact hx
      · exact h3 y hy
    · rw [List.map_cons, List.flatten_cons, List.mem_append]
      rcases List.mem_cons.mp hy with rfl | hy
      · exact .inl hxi
      · exact .inr (h4 y hy)
theorem apart_le {rows : List (List Int)} {rs L : List Int} (ha : apartB rows rs = true) (hr : ∀ i ∈ rs, 0 ≤ i ∧ i < rows.length) (hm : meetsB rows L = true) : rs.length ≤ L.length := by
  have hn : (colsAt rows rs).Nodup := dedup_full (by simpa [apartB] using ha)
  obtain ⟨xs, h1, h2, h3, _⟩ := pigeon (fun i => rows.getD i.toNat []) L hn fun i hi => by
    obtain ⟨i0, i1⟩ := hr i hi
    have hk : i.toNat < rows.length := by omega
    have hmem : rows.getD i.toNat [] ∈ rows := by
      rw [List.getD_eq_getElem?_getD, List.getElem?_eq_getElem hk]
      exact List.getElem_mem hk
    have := List.all_eq_true.mp hm _ hmem
    obtain ⟨x, hx, h⟩ := List.any_eq_true.mp this
    obtain ⟨c, hc, e⟩ := List.any_eq_true.mp h
    rw [beq_iff_eq.mp e] at hc
    exact ⟨x, hx, hc⟩
  rw [← h2]
  exact subset_len h1 h3
/-! ### all sets of columns -/
def lotsZ : Nat → List (List Int)
  | 0 => [[]]
  | k + 1 => lotsZ k ++ (lotsZ k).map fun l => l ++ [(k : Int)]
theorem lotsZ_len : ∀ k, (lotsZ k).length = 2 ^ k
  | 0 => rfl
  | k + 1 => by
    show (lotsZ k ++ (lotsZ k).map _).length = _
    rw [List.length_append, List.length_map, lotsZ_len k, Nat.pow_succ]
    omega
theorem lotsZ_in : ∀ {k : Nat} {l : List Int}, l ∈ lotsZ k → l.length ≤ k
  | 0, l, h => by
    rw [List.mem_singleton.mp (show l ∈ [[]] from h)]
    exact Nat.zero_le _
  | k + 1, l, h => by
    rcases List.mem_append.mp (show l ∈ lotsZ k ++ (lotsZ k).map _ from h) with h | h
    · have := lotsZ_in h; omega
    · obtain ⟨l', h', rfl⟩ := List.mem_map.mp h
      have := lotsZ_in h'
      rw [List.length_append, List.length_singleton]
      omega
theorem lotsZ_all : ∀ {k : Nat} {l : List Int}, l.Pairwise (· < ·) → (∀ i ∈ l, 0 ≤ i ∧ i < (k : Int)) → l ∈ lotsZ k
  | 0, l, _, hb => by
    cases l with
    | nil => exact List.mem_singleton.mpr rfl
    | cons a l => have := hb a List.mem_cons_self; omega
  | k + 1, l, hp, hb => by
    show l ∈ lotsZ k ++ (lotsZ k).map _
    rw [List.mem_append]
    by_cases hk : (k : Int) ∈ l
    · refine .inr ?_
      rcases List.eq_nil_or_concat l with rfl | ⟨l', a, rfl⟩
      · cases hk
      · rw [List.concat_eq_append] at hp hb hk ⊢
        have hq := List.pairwise_append.mp hp
        have ha : a = (k : Int) := by
          rcases List.mem_append.mp hk with h | h
          · have h1 := hq.2.2 _ h a (by simp [opd, twoD, oneD, settle, look, slotD, alias1, aliasL, lookL, asInt, asBool, fits, sizeLine, binV, cmpV, truthD, slV, biV, isTy, runF, startE, argsFit, lentBack, handBack, store_if, storeN_if, storeV, change, isOwn, io_fz, io_un, io_ow, io_io, ixL, augI, augV, callV, handOver, lentAt, shownAt, putBack, Res.need, slot, immV, isNoneD, negV, SeqAt.shaped, ev_ii, ev_bb, ev_ss, ev_tt, ev_ll, PyData.eqvAll, PyData.canLay0, PyData.canLayAll0, PyData.depth, PyData.depthAll])
            have h2 := hb a (by simp [opd, twoD, oneD, settle, look, slotD, alias1, aliasL, lookL, asInt, asBool, fits, sizeLine, binV, cmpV, truthD, slV, biV, isTy, runF, startE, argsFit, lentBack, handBack, store_if, storeN_if, storeV, change, isOwn, io_fz, io_un, io_ow, io_io, ixL, augI, augV, callV, handOver, lentAt, shownAt, putBack, Res.need, slot, immV, isNoneD, negV, SeqAt.shaped, ev_ii, ev_bb, ev_ss, ev_tt, ev_ll, PyData.eqvAll, PyData.canLay0, PyData.canLayAll0, PyData.depth, PyData.depthAll])
            omega
          · exact (List.mem_singleton.mp h).symm
        subst ha
        refine List.mem_map.mpr ⟨l', lotsZ_all hq.1 fun i hi => ?_, rfl⟩
        have h1 := hq.2.2 i hi _ (List.mem_singleton.mpr rfl)
        have h2 := hb i (List.mem_append_left _ hi)
        omega
    · refine .inl (lotsZ_all hp fun i hi => ?_)
      have h2 := hb i hi
      have h3 : i ≠ (k : Int) := fun e => hk (e ▸ hi)
      omega
theorem c_lots (n : Nat) {m : Nat} (hm : m ≤ 10) : callN P (n + 1) "_law_lots" [.fz (.int (m : Int))] = .ok (.d (.list ((lotsZ m).map tI)), []) := by
  have hS := rng1_at (call := callN P n) (lo := lentIn P) (a := .nm 0) (ρ := [.fz (.int m), .fz (.list [.tuple []]), .un, .un]) (ρ1 := [.fz (.int m), .fz (.list [.tuple []]), .un, .un]) (m := m) (by simp [opd, twoD, oneD, settle, look, slotD, alias1, aliasL, lookL, asInt, asBool, fits, sizeLine, binV, cmpV, truthD, slV, biV, isTy, runF, startE, argsFit, lentBack, handBack, store_if, storeN_if, storeV, change, isOwn, io_fz, io_un, io_ow, io_io, ixL, augI, augV, callV, handOver, lentAt, shownAt, putBack, Res.need, slot, immV, isNoneD, negV, SeqAt.shaped, ev_ii, ev_bb, ev_ss, ev_tt, ev_ll, PyData.eqvAll, PyData.canLay0, PyData.canLayAll0, PyData.depth, PyData.depthAll]) (by omega)
  have s0 : evS (callN P n) (lentIn P) (nthS f__law_lots.body 0) [.fz (.int m), .un, .un, .un] = .ok (.nx [.fz (.int m), .fz (.list [.tuple []]), .un, .un]) := by
    simp [opd, twoD, oneD, settle, look, slotD, alias1, aliasL, lookL, asInt, asBool, fits, sizeLine, binV, cmpV, truthD, slV, biV, isTy, runF, startE, argsFit, lentBack, handBack, store_if, storeN_if, storeV, change, isOwn, io_fz, io_un, io_ow, io_io, ixL, augI, augV, callV, handOver, lentAt, shownAt, putBack, Res.need, slot, immV, isNoneD, negV, SeqAt.shaped, ev_ii, ev_bb, ev_ss, ev_tt, ev_ll, PyData.eqvAll, PyData.canLay0, PyData.canLayAll0, PyData.depth, PyData.depthAll, nthS, f__law_lots]
  obtain ⟨ρ', e1, s2, s3, rfl, h2, h3⟩ := forTurns_ok (tg := .nm 2) (body := cB (callN P n) (lentIn P) (.cons (.asg 1 false (.bin .Add (.nm 1) (.comp (.bin .Add (.nm 3) (.tup (.cons (.nm 2) .nil))) (.nm 3) (.seq (.nm 1)) [3]))) .nil)) (xs := (List.range m).map fun (k : Nat) => .int k) (ρ := [.fz (.int m), .fz (.list [.tuple []]), .un, .un])
    (fun k ρ => ∃ s2 s3, ρ = [.fz (.int m), .fz (.list ((lotsZ k).map tI)), s2, s3] ∧ isIo s2 = false ∧ isIo s3 = false) 0
    (fun j x ρ hj hI => by
      obtain ⟨s2, s3, rfl, h2, h3⟩ := hI
      obtain ⟨hjm, rfl⟩ := range_at hj
      simp only [Nat.zero_add]
      have hT := turns_mapG (tg := .nm 3) (own := [3]) (ρ := [.fz (.int m), .fz (.list ((lotsZ j).map tI)), .fz (.int j), .un]) (elt := cE (callN P n) (lentIn P) (.bin .Add (.nm 3) (.tup (.cons (.nm 2) .nil))))
        (ys := lotsZ j) (acc := []) tI (fun l => tI (l ++ [(j : Int)])) fun l hl => by
          have hll := lotsZ_in hl
          have hz : l.length ≤ 16777215 := by omega
          exact ⟨[.fz (.int m), .fz (.list ((lotsZ j).map tI)), .fz (.int j), .fz (tI l)], by simp [opd, twoD, oneD, settle, look, slotD, alias1, aliasL, lookL, asInt, asBool, fits, sizeLine, binV, cmpV, truthD, slV, biV, isTy, runF, startE, argsFit, lentBack, handBack, store_if, storeN_if, storeV, change, isOwn, io_fz, io_un, io_ow, io_io, ixL, augI, augV, callV, handOver, lentAt, shownAt, putBack, Res.need, slot, immV, isNoneD, negV, SeqAt.shaped, ev_ii, ev_bb, ev_ss, ev_tt, ev_ll, PyData.eqvAll, PyData.canLay0, PyData.canLayAll0, PyData.depth, PyData.depthAll, storeTg], by simp [opd, twoD, oneD, settle, look, slotD, alias1, aliasL, lookL, asInt, asBool, fits, sizeLine, binV, cmpV, truthD, slV, biV, isTy, runF, startE, argsFit, lentBack, handBack, store_if, storeN_if, storeV, change, isOwn, io_fz, io_un, io_ow, io_io, ixL, augI, augV, callV, handOver, lentAt, shownAt, putBack, Res.need, slot, immV, isNoneD, negV, SeqAt.shaped, ev_ii, ev_bb, ev_ss, ev_tt, ev_ll, PyData.eqvAll, PyData.canLay0, PyData.canLayAll0, PyData.depth, PyData.depthAll, hz], by simp [opd, twoD, oneD, settle, look, slotD, alias1, aliasL, lookL, asInt, asBool, fits, sizeLine, binV, cmpV, truthD, slV, biV, isTy, runF, startE, argsFit, lentBack, handBack, store_if, storeN_if, storeV, change, isOwn, io_fz, io_un, io_ow, io_io, ixL, augI, augV, callV, handOver, lentAt, shownAt, putBack, Res.need, slot, immV, isNoneD, negV, SeqAt.shaped, ev_ii, ev_bb, ev_ss, ev_tt, ev_ll, PyData.eqvAll, PyData.canLay0, PyData.canLayAll0, PyData.depth, PyData.depthAll, wipeE]⟩
      rw [List.nil_append] at hT
      have hSq : evSrc (callN P n) (lentIn P) (.seq (.nm 1)) [.fz (.int m), .fz (.list ((lotsZ j).map tI)), .fz (.int j), s3] = .ok ((lotsZ j).map tI, [.fz (.int m), .fz (.list ((lotsZ j).map tI)), .fz (.int j), s3]) := by simp [opd, twoD, oneD, settle, look, slotD, alias1, aliasL, lookL, asInt, asBool, fits, sizeLine, binV, cmpV, truthD, slV, biV, isTy, runF, startE, argsFit, lentBack, handBack, store_if, storeN_if, storeV, change, isOwn, io_fz, io_un, io_ow, io_io, ixL, augI, augV, callV, handOver, lentAt, shownAt, putBack, Res.need, slot, immV, isNoneD, negV, SeqAt.shaped, ev_ii, ev_bb, ev_ss, ev_tt, ev_ll, PyData.eqvAll, PyData.canLay0, PyData.canLayAll0, PyData.depth, PyData.depthAll, seqOf]
      have hc := comp_run (own := [3]) hSq (by simpa [wipeE] using hT)
      have hlen : ((lotsZ j).map tI).length + ((lotsZ j).map fun l => tI (l ++ [(j : Int)])).length ≤ 16777216 := by
        rw [List.length_map, List.length_map, lotsZ_len]
        have : 2 ^ j ≤ 2 ^ 10 := Nat.pow_le_pow_right (by omega) (by omega)
        omega
      refine ⟨[.fz (.int m), .fz (.list ((lotsZ j).map tI)), .fz (.int j), s3], [.fz (.int m), .fz (.list ((lotsZ (j + 1)).map tI)), .fz (.int j), s3], by simp [opd, twoD, oneD, settle, look, slotD, alias1, aliasL, lookL, asInt, asBool, fits, sizeLine, binV, cmpV, truthD, slV, biV, isTy, runF, startE, argsFit, lentBack, handBack, store_if, storeN_if, storeV, change, isOwn, io_fz, io_un, io_ow, io_io, ixL, augI, augV, callV, handOver, lentAt, shownAt, putBack, Res.need, slot, immV, isNoneD, negV, SeqAt.shaped, ev_ii, ev_bb, ev_ss, ev_tt, ev_ll, PyData.eqvAll, PyData.canLay0, PyData.canLayAll0, PyData.depth, PyData.depthAll, storeTg, h2], ?_, .fz (.int j), s3, rfl, rfl, h3⟩
      have el : (lotsZ (j + 1)).map tI = (lotsZ j).map tI ++ (lotsZ j).map fun l => tI (l ++ [(j : Int)]) := by
        show (lotsZ j ++ (lotsZ j).map _).map tI = _
        rw [List.map_append, List.map_map]
        rfl
      rw [el]
      generalize (lotsZ j).map (fun l => tI (l ++ [(j : Int)])) = A at hc hlen ⊢
      generalize (lotsZ j).map tI = B at hc hlen ⊢
      simp [opd, twoD, oneD, settle, look, slotD, alias1, aliasL, lookL, asInt, asBool, fits, sizeLine, binV, cmpV, truthD, slV, biV, isTy, runF, startE, argsFit, lentBack, handBack, store_if, storeN_if, storeV, change, isOwn, io_fz, io_un, io_ow, io_io, ixL, augI, augV, callV, handOver, lentAt, shownAt, putBack, Res.need, slot, immV, isNoneD, negV, SeqAt.shaped, ev_ii, ev_bb, ev_ss, ev_tt, ev_ll, PyData.eqvAll, PyData.canLay0, PyData.canLayAll0, PyData.depth, PyData.depthAll, -x_E_comp, hc, restore, hlen]) ⟨.un, .un, rfl, rfl, rfl⟩
  rw [List.length_map, List.length_range, Nat.zero_add] at e1
  exact call_ret (fd := f__law_lots) rfl ⟨rfl, rfl⟩ ((ss_nx s0).trans ((ss_nx (for_run hS e1)).trans (ss_ret (v := .d (.list ((lotsZ m).map tI))) (ρ1 := [.fz (.int m), .fz (.list ((lotsZ m).map tI)), s2, s3]) (by simp [opd, twoD, oneD, settle, look, slotD, alias1, aliasL, lookL, asInt, asBool, fits, sizeLine, binV, cmpV, truthD, slV, biV, isTy, runF, startE, argsFit, lentBack, handBack, store_if, storeN_if, storeV, change, isOwn, io_fz, io_un, io_ow, io_io, ixL, augI, augV, callV, handOver, lentAt, shownAt, putBack, Res.need, slot, immV, isNoneD, negV, SeqAt.shaped, ev_ii, ev_bb, ev_ss, ev_tt, ev_ll, PyData.eqvAll, PyData.canLay0, PyData.canLayAll0, PyData.depth, PyData.depthAll])))) rfl rfl
theorem c_meets (n : Nat) {m : Nat} {rows : List (List Int)} (ps : List Int) : callN P (n + 1) "_law_meets" [.fz (board m rows), .fz (tI ps)] = .ok (.d (.bool (meetsB rows ps)), []) := by
  have hT := turns_filterG (tg := .nm 2) (own := [2]) (ρ := [.fz (board m rows), .fz (tI ps), .un, .un]) (test := cT (callN P n) (lentIn P) (.val (.cmp .Eq (.compif (.nm 3) (.nm 3) (.seq (.nm 1)) (.val (.cmp .In (.nm 3) (.nm 2))) [3]) (.lst .nil)))) (elt := cE (callN P n) (lentIn P) (.nm 2))
    (ys := rows) (acc := []) tI (fun row => (ps.filter fun x => row.any (· == x)).isEmpty) tI fun row _ => by
      have hI := turns_filterG (tg := .nm 3) (own := [3]) (ρ := [.fz (board m rows), .fz (tI ps), .fz (tI row), .un]) (test := cT (callN P n) (lentIn P) (.val (.cmp .In (.nm 3) (.nm 2)))) (elt := cE (callN P n) (lentIn P) (.nm 3))
        (ys := ps) (acc := []) PyData.int (fun x => row.any (· == x)) PyData.int fun x _ => ⟨[.fz (board m rows), .fz (tI ps), .fz (tI row), .fz (.int x)], by simp [opd, twoD, oneD, settle, look, slotD, alias1, aliasL, lookL, asInt, asBool, fits, sizeLine, binV, cmpV, truthD, slV, biV, isTy, runF, startE, argsFit, lentBack, handBack, store_if, storeN_if, storeV, change, isOwn, io_fz, io_un, io_ow, io_io, ixL, augI, augV, callV, handOver, lentAt, shownAt, putBack, Res.need, slot, immV, isNoneD, negV, SeqAt.shaped, ev_ii, ev_bb, ev_ss, ev_tt, ev_ll, PyData.eqvAll, PyData.canLay0, PyData.canLayAll0, PyData.depth, PyData.depthAll, storeTg], by simp [opd, twoD, oneD, settle, look, slotD, alias1, aliasL, lookL, asInt, asBool, fits, sizeLine, binV, cmpV, truthD, slV, biV, isTy, runF, startE, argsFit, lentBack, handBack, store_if, storeN_if, storeV, change, isOwn, io_fz, io_un, io_ow, io_io, ixL, augI, augV, callV, handOver, lentAt, shownAt, putBack, Res.need, slot, immV, isNoneD, negV, SeqAt.shaped, ev_ii, ev_bb, ev_ss, ev_tt, ev_ll, PyData.eqvAll, PyData.canLay0, PyData.canLayAll0, PyData.depth, PyData.depthAll, flatD, flat_ints, inD_ints], fun _ => by simp [opd, twoD, oneD, settle, look, slotD, alias1, aliasL, lookL, asInt, asBool, fits, sizeLine, binV, cmpV, truthD, slV, biV, isTy, runF, startE, argsFit, lentBack, handBack, store_if, storeN_if, storeV, change, isOwn, io_fz, io_un, io_ow, io_io, ixL, augI, augV, callV, handOver, lentAt, shownAt, putBack, Res.need, slot, immV, isNoneD, negV, SeqAt.shaped, ev_ii, ev_bb, ev_ss, ev_tt, ev_ll, PyData.eqvAll, PyData.canLay0, PyData.canLayAll0, PyData.depth, PyData.depthAll], by simp [opd, twoD, oneD, settle, look, slotD, alias1, aliasL, lookL, asInt, asBool, fits, sizeLine, binV, cmpV, truthD, slV, biV, isTy, runF, startE, argsFit, lentBack, handBack, store_if, storeN_if, storeV, change, isOwn, io_fz, io_un, io_ow, io_io, ixL, augI, augV, callV, handOver, lentAt, shownAt, putBack, Res.need, slot, immV, isNoneD, negV, SeqAt.shaped, ev_ii, ev_bb, ev_ss, ev_tt, ev_ll, PyData.eqvAll, PyData.canLay0, PyData.canLayAll0, PyData.depth, PyData.depthAll, wipeE]⟩
      rw [List.nil_append] at hI
      have hSI : evSrc (callN P n) (lentIn P) (.seq (.nm 1)) [.fz (board m rows), .fz (tI ps), .fz (tI row), .un] = .ok (ps.map PyData.int, [.fz (board m rows), .fz (tI ps), .fz (tI row), .un]) := by simp [opd, twoD, oneD, settle, look, slotD, alias1, aliasL, lookL, asInt, asBool, fits, sizeLine, binV, cmpV, truthD, slV, biV, isTy, runF, startE, argsFit, lentBack, handBack, store_if, storeN_if, storeV, change, isOwn, io_fz, io_un, io_ow, io_io, ixL, augI, augV, callV, handOver, lentAt, shownAt, putBack, Res.need, slot, immV, isNoneD, negV, SeqAt.shaped, ev_ii, ev_bb, ev_ss, ev_tt, ev_ll, PyData.eqvAll, PyData.canLay0, PyData.canLayAll0, PyData.depth, PyData.depthAll, seqOf]
      have hcI := compif_run (own := [3]) hSI hI
      have hre : restore [.fz (board m rows), .fz (tI ps), .fz (tI row), .un] [.fz (board m rows), .fz (tI ps), .fz (tI row), .un] [3] = [.fz (board m rows), .fz (tI ps), .fz (tI row), .un] := by simp [opd, twoD, oneD, settle, look, slotD, alias1, aliasL, lookL, asInt, asBool, fits, sizeLine, binV, cmpV, truthD, slV, biV, isTy, runF, startE, argsFit, lentBack, handBack, store_if, storeN_if, storeV, change, isOwn, io_fz, io_un, io_ow, io_io, ixL, augI, augV, callV, handOver, lentAt, shownAt, putBack, Res.need, slot, immV, isNoneD, negV, SeqAt.shaped, ev_ii, ev_bb, ev_ss, ev_tt, ev_ll, PyData.eqvAll, PyData.canLay0, PyData.canLayAll0, PyData.depth, PyData.depthAll, restore]
      rw [hre] at hcI
      refine ⟨[.fz (board m rows), .fz (tI ps), .fz (tI row), .un], by simp [opd, twoD, oneD, settle, look, slotD, alias1, aliasL, lookL, asInt, asBool, fits, sizeLine, binV, cmpV, truthD, slV, biV, isTy, runF, startE, argsFit, lentBack, handBack, store_if, storeN_if, storeV, change, isOwn, io_fz, io_un, io_ow, io_io, ixL, augI, augV, callV, handOver, lentAt, shownAt, putBack, Res.need, slot, immV, isNoneD, negV, SeqAt.shaped, ev_ii, ev_bb, ev_ss, ev_tt, ev_ll, PyData.eqvAll, PyData.canLay0, PyData.canLayAll0, PyData.depth, PyData.depthAll, storeTg], ?_, fun _ => by simp [opd, twoD, oneD, settle, look, slotD, alias1, aliasL, lookL, asInt, asBool, fits, sizeLine, binV, cmpV, truthD, slV, biV, isTy, runF, startE, argsFit, lentBack, handBack, store_if, storeN_if, storeV, change, isOwn, io_fz, io_un, io_ow, io_io, ixL, augI, augV, callV, handOver, lentAt, shownAt, putBack, Res.need, slot, immV, isNoneD, negV, SeqAt.shaped, ev_ii, ev_bb, ev_ss, ev_tt, ev_ll, PyData.eqvAll, PyData.canLay0, PyData.canLayAll0, PyData.depth, PyData.depthAll], by simp [opd, twoD, oneD, settle, look, slotD, alias1, aliasL, lookL, asInt, asBool, fits, sizeLine, binV, cmpV, truthD, slV, biV, isTy, runF, startE, argsFit, lentBack, handBack, store_if, storeN_if, storeV, change, isOwn, io_fz, io_un, io_ow, io_io, ixL, augI, augV, callV, handOver, lentAt, shownAt, putBack, Res.need, slot, immV, isNoneD, negV, SeqAt.shaped, ev_ii, ev_bb, ev_ss, ev_tt, ev_ll, PyData.eqvAll, PyData.canLay0, PyData.canLayAll0, PyData.depth, PyData.depthAll, wipeE]⟩
      generalize ps.filter (fun x => row.any (· == x)) = L at hcI ⊢
      have c1 := canL_ints L
      have c2 := depL_ints L
      have c3 : (L.map PyData.int).isEmpty = L.isEmpty := by cases L <;> rfl
      rw [cT_at, x_T_val, x_E_cmp, hcI]
      unfold twoD opd
      simp [opd, twoD, oneD, settle, look, slotD, alias1, aliasL, lookL, asInt, asBool, fits, sizeLine, binV, cmpV, truthD, slV, biV, isTy, runF, startE, argsFit, lentBack, handBack, store_if, storeN_if, storeV, change, isOwn, io_fz, io_un, io_ow, io_io, ixL, augI, augV, callV, handOver, lentAt, shownAt, putBack, Res.need, slot, immV, isNoneD, negV, SeqAt.shaped, ev_ii, ev_bb, ev_ss, ev_tt, ev_ll, PyData.eqvAll, PyData.canLay0, PyData.canLayAll0, PyData.depth, PyData.depthAll, c1, c2, eqvAll_nil, c3]
  rw [List.nil_append] at hT
  have hc := compif_run (own := [2]) (s_rows (m := m) (rows := rows) (call := callN P n) (lo := lentIn P) (rest := [.fz (tI ps), .un, .un])) hT
  have hre : restore [.fz (board m rows), .fz (tI ps), .un, .un] [.fz (board m rows), .fz (tI ps), .un, .un] [2] = [.fz (board m rows), .fz (tI ps), .un, .un] := by simp [opd, twoD, oneD, settle, look, slotD, alias1, aliasL, lookL, asInt, asBool, fits, sizeLine, binV, cmpV, truthD, slV, biV, isTy, runF, startE, argsFit, lentBack, handBack, store_if, storeN_if, storeV, change, isOwn, io_fz, io_un, io_ow, io_io, ixL, augI, augV, callV, handOver, lentAt, shownAt, putBack, Res.need, slot, immV, isNoneD, negV, SeqAt.shaped, ev_ii, ev_bb, ev_ss, ev_tt, ev_ll, PyData.eqvAll, PyData.canLay0, PyData.canLayAll0, PyData.depth, PyData.depthAll, restore]
  rw [hre] at hc
  have hfe := filt_empty rows ps
  have s0 : evS (callN P n) (lentIn P) (nthS f__law_meets.body 0) [.fz (board m rows), .fz (tI ps), .un, .un] = .ok (.ret (.d (.bool (meetsB rows ps))) [.fz (board m rows), .fz (tI ps), .un, .un]) := by
    have e0 : nthS f__law_meets.body 0 = .ret (.cmp .Eq (.compif (.nm 2) (.nm 2) (.seq (.ix (.nm 0) (.c (.int (1))))) (.val (.cmp .Eq (.compif (.nm 3) (.nm 3) (.seq (.nm 1)) (.val (.cmp .In (.nm 3) (.nm 2))) [3]) (.lst .nil))) [2]) (.lst .nil)) := rfl
    rw [e0, ← hfe, x_S_ret, x_E_cmp, hc]
    generalize rows.filter (fun row => (ps.filter fun x => row.any (· == x)).isEmpty) = L
    obtain ⟨c1, c2⟩ := shape_tIs L
    have c2' : PyData.depthAll (L.map tI) ≤ 63 := by omega
    have c3 : (L.map tI).isEmpty = L.isEmpty := by cases L <;> rfl
    unfold twoD opd
    simp [opd, twoD, oneD, settle, look, slotD, alias1, aliasL, lookL, asInt, asBool, fits, sizeLine, binV, cmpV, truthD, slV, biV, isTy, runF, startE, argsFit, lentBack, handBack, store_if, storeN_if, storeV, change, isOwn, io_fz, io_un, io_ow, io_io, ixL, augI, augV, callV, handOver, lentAt, shownAt, putBack, Res.need, slot, immV, isNoneD, negV, SeqAt.shaped, ev_ii, ev_bb, ev_ss, ev_tt, ev_ll, PyData.eqvAll, PyData.canLay0, PyData.canLayAll0, PyData.depth, PyData.depthAll, c1, c2', eqvAll_nil, c3]
  exact call_ret (fd := f__law_meets) rfl ⟨rfl, rfl⟩ (ss_ret s0) rfl rfl
theorem c_same_b (n : Nat) (b : Bool) : callN P (n + 1) "_law_same" [.fz (.bool b), .fz (.bool b)] = .ok (.d (.bool true), []) := by
  rw [call_at (fd := f__law_same) rfl]
  cases b <;> simp [opd, twoD, oneD, settle, look, slotD, alias1, aliasL, lookL, asInt, asBool, fits, sizeLine, binV, cmpV, truthD, slV, biV, isTy, runF, startE, argsFit, lentBack, handBack, store_if, storeN_if, storeV, change, isOwn, io_fz, io_un, io_ow, io_io, ixL, augI, augV, callV, handOver, lentAt, shownAt, putBack, Res.need, slot, immV, isNoneD, negV, SeqAt.shaped, ev_ii, ev_bb, ev_ss, ev_tt, ev_ll, PyData.eqvAll, PyData.canLay0, PyData.canLayAll0, PyData.depth, PyData.depthAll, f__law_same]
theorem c_same_2 (n : Nat) (b : Bool) : callN P (n + 2) "_law_same" [.fz (.list [.bool b, .bool b]), .fz (.list [.bool b, .bool b])] = .ok (.d (.bool true), []) := by
  rw [call_at (fd := f__law_same) rfl]
  have hT := turns_mapG (tg := .nm 2) (own := [2]) (ρ := [.fz (.list [.bool b, .bool b]), .fz (.list [.bool b, .bool b]), .un]) (elt := cE (callN P (n + 1)) (lentIn P) (.call "_law_same" (.cons (.ix (.nm 0) (.nm 2)) (.cons (.ix (.nm 1) (.nm 2)) .nil))))
    (ys := List.range 2) (acc := []) (fun k => .int (k : Nat)) (fun _ => .bool true) fun k hk => by
      have hk := List.mem_range.mp hk
      have e : atI [PyData.bool b, PyData.bool b] (k : Int) = some (.bool b) := by
        rw [atI_nat (by simpa using hk)]
        rcases (by omega : k = 0 ∨ k = 1) with rfl | rfl <;> rfl
      have e2 := c_same_b n b
      exact ⟨[.fz (.list [.bool b, .bool b]), .fz (.list [.bool b, .bool b]), .fz (.int k)], by simp [opd, twoD, oneD, settle, look, slotD, alias1, aliasL, lookL, asInt, asBool, fits, sizeLine, binV, cmpV, truthD, slV, biV, isTy, runF, startE, argsFit, lentBack, handBack, store_if, storeN_if, storeV, change, isOwn, io_fz, io_un, io_ow, io_io, ixL, augI, augV, callV, handOver, lentAt, shownAt, putBack, Res.need, slot, immV, isNoneD, negV, SeqAt.shaped, ev_ii, ev_bb, ev_ss, ev_tt, ev_ll, PyData.eqvAll, PyData.canLay0, PyData.canLayAll0, PyData.depth, PyData.depthAll, storeTg], by simp [opd, twoD, oneD, settle, look, slotD, alias1, aliasL, lookL, asInt, asBool, fits, sizeLine, binV, cmpV, truthD, slV, biV, isTy, runF, startE, argsFit, lentBack, handBack, store_if, storeN_if, storeV, change, isOwn, io_fz, io_un, io_ow, io_io, ixL, augI, augV, callV, handOver, lentAt, shownAt, putBack, Res.need, slot, immV, isNoneD, negV, SeqAt.shaped, ev_ii, ev_bb, ev_ss, ev_tt, ev_ll, PyData.eqvAll, PyData.canLay0, PyData.canLayAll0, PyData.depth, PyData.depthAll, ixV, e, l_same, e2], by simp [opd, twoD, oneD, settle, look, slotD, alias1, aliasL, lookL, asInt, asBool, fits, sizeLine, binV, cmpV, truthD, slV, biV, isTy, runF, startE, argsFit, lentBack, handBack, store_if, storeN_if, storeV, change, isOwn, io_fz, io_un, io_ow, io_io, ixL, augI, augV, callV, handOver, lentAt, shownAt, putBack, Res.need, slot, immV, isNoneD, negV, SeqAt.shaped, ev_ii, ev_bb, ev_ss, ev_tt, ev_ll, PyData.eqvAll, PyData.canLay0, PyData.canLayAll0, PyData.depth, PyData.depthAll, wipeE]⟩
  simp only [List.nil_append] at hT
  have hS := rng1_at (call := callN P (n + 1)) (lo := lentIn P) (a := .bi .len (.cons (.nm 1) .nil)) (ρ := [.fz (.list [.bool b, .bool b]), .fz (.list [.bool b, .bool b]), .un]) (ρ1 := [.fz (.list [.bool b, .bool b]), .fz (.list [.bool b, .bool b]), .un]) (m := 2) (by simp [opd, twoD, oneD, settle, look, slotD, alias1, aliasL, lookL, asInt, asBool, fits, sizeLine, binV, cmpV, truthD, slV, biV, isTy, runF, startE, argsFit, lentBack, handBack, store_if, storeN_if, storeV, change, isOwn, io_fz, io_un, io_ow, io_io, ixL, augI, augV, callV, handOver, lentAt, shownAt, putBack, Res.need, slot, immV, isNoneD, negV, SeqAt.shaped, ev_ii, ev_bb, ev_ss, ev_tt, ev_ll, PyData.eqvAll, PyData.canLay0, PyData.canLayAll0, PyData.depth, PyData.depthAll, biV]) (by decide)
  have hb := asBools_map (fun _ : Nat => true) (List.range 2)
  have hc := comp_run (own := [2]) hS hT
  have hall : biV .all [.list ((List.range 2).map fun _ => PyData.bool true)] = .ok (.d (.bool true)) := rfl
  simp [opd, twoD, oneD, settle, look, slotD, alias1, aliasL, lookL, asInt, asBool, fits, sizeLine, binV, cmpV, truthD, slV, biV, isTy, runF, startE, argsFit, lentBack, handBack, store_if, storeN_if, storeV, change, isOwn, io_fz, io_un, io_ow, io_io, ixL, augI, augV, callV, handOver, lentAt, shownAt, putBack, Res.need, slot, immV, isNoneD, negV, SeqAt.shaped, ev_ii, ev_bb, ev_ss, ev_tt, ev_ll, PyData.eqvAll, PyData.canLay0, PyData.canLayAll0, PyData.depth, PyData.depthAll, -x_E_comp, f__law_same, hc, restore, hb, biV]
theorem c_row (n : Nat) {b m : Nat} {f : List D} (h : Feed (b + m) f) (hm : m ≤ 10) :
    ∃ (r : List Int) (f' : List D), callN P (n + 2) "_law_row" [.io f, .fz (.int (m : Int))] = .ok (.d (tI r), [f']) ∧ RowZ m r ∧ r.length ≤ 10 ∧ Feed b f' := by
  obtain ⟨ρ', acc', e2, w2, ns, rfl, hw2, rfl, p1, p2, p3⟩ := turns_ok (tg := .nm 2) (own := [2]) (test := cT (callN P (n + 1)) (lentIn P) (.val (.cmp .Eq (.call "_law_drawn" (.cons (.nm 0) (.cons (.c (.int (2))) .nil))) (.c (.int (0))))))
    (elt := cE (callN P (n + 1)) (lentIn P) (.nm 2)) (xs := (List.range m).map fun (k : Nat) => .int k) (ρ := [.io f, .fz (.int m), .un]) (acc := [])
    (fun k ρ acc => ∃ (w : List D) (ns : List Int), ρ = [.io w, .fz (.int m), .un] ∧ Feed (b + (m - k)) w ∧ acc = ns.map PyData.int ∧ ns.Pairwise (· < ·) ∧ (∀ i ∈ ns, 0 ≤ i ∧ i < (k : Int)) ∧ ns.length ≤ k) 0
    (fun j x ρ acc hj hI => by
      obtain ⟨w, ns, rfl, hw, rfl, p1, p2, p3⟩ := hI
      obtain ⟨hjm, rfl⟩ := range_at hj
      obtain ⟨d, w', e, d1, hw'⟩ := c_drawn n (b := b + (m - (0 + j + 1))) (f := w) 2 (hw.weak (by omega)) (by omega) (by omega)
      simp [opd, twoD, oneD, settle, look, slotD, alias1, aliasL, lookL, asInt, asBool, fits, sizeLine, binV, cmpV, truthD, slV, biV, isTy, runF, startE, argsFit, lentBack, handBack, store_if, storeN_if, storeV, change, isOwn, io_fz, io_un, io_ow, io_io, ixL, augI, augV, callV, handOver, lentAt, shownAt, putBack, Res.need, slot, immV, isNoneD, negV, SeqAt.shaped, ev_ii, ev_bb, ev_ss, ev_tt, ev_ll, PyData.eqvAll, PyData.canLay0, PyData.canLayAll0, PyData.depth, PyData.depthAll] at e
      refine ⟨[.io w, .fz (.int m), .fz (.int j)], (d : Int) == 0, [.io w', .fz (.int m), .fz (.int j)], by simp [opd, twoD, oneD, settle, look, slotD, alias1, aliasL, lookL, asInt, asBool, fits, sizeLine, binV, cmpV, truthD, slV, biV, isTy, runF, startE, argsFit, lentBack, handBack, store_if, storeN_if, storeV, change, isOwn, io_fz, io_un, io_ow, io_io, ixL, augI, augV, callV, handOver, lentAt, shownAt, putBack, Res.need, slot, immV, isNoneD, negV, SeqAt.shaped, ev_ii, ev_bb, ev_ss, ev_tt, ev_ll, PyData.eqvAll, PyData.canLay0, PyData.canLayAll0, PyData.depth, PyData.depthAll, storeTg], by simp [opd, twoD, oneD, settle, look, slotD, alias1, aliasL, lookL, asInt, asBool, fits, sizeLine, binV, cmpV, truthD, slV, biV, isTy, runF, startE, argsFit, lentBack, handBack, store_if, storeN_if, storeV, change, isOwn, io_fz, io_un, io_ow, io_io, ixL, augI, augV, callV, handOver, lentAt, shownAt, putBack, Res.need, slot, immV, isNoneD, negV, SeqAt.shaped, ev_ii, ev_bb, ev_ss, ev_tt, ev_ll, PyData.eqvAll, PyData.canLay0, PyData.canLayAll0, PyData.depth, PyData.depthAll, l_drawn, e], fun _ => ⟨.d (.int j), [.io w', .fz (.int m), .fz (.int j)], .int j, [.io w', .fz (.int m), .fz (.int j)], by simp [opd, twoD, oneD, settle, look, slotD, alias1, aliasL, lookL, asInt, asBool, fits, sizeLine, binV, cmpV, truthD, slV, biV, isTy, runF, startE, argsFit, lentBack, handBack, store_if, storeN_if, storeV, change, isOwn, io_fz, io_un, io_ow, io_io, ixL, augI, augV, callV, handOver, lentAt, shownAt, putBack, Res.need, slot, immV, isNoneD, negV, SeqAt.shaped, ev_ii, ev_bb, ev_ss, ev_tt, ev_ll, PyData.eqvAll, PyData.canLay0, PyData.canLayAll0, PyData.depth, PyData.depthAll], by simp [opd, twoD, oneD, settle, look, slotD, alias1, aliasL, lookL, asInt, asBool, fits, sizeLine, binV, cmpV, truthD, slV, biV, isTy, runF, startE, argsFit, lentBack, handBack, store_if, storeN_if, storeV, change, isOwn, io_fz, io_un, io_ow, io_io, ixL, augI, augV, callV, handOver, lentAt, shownAt, putBack, Res.need, slot, immV, isNoneD, negV, SeqAt.shaped, ev_ii, ev_bb, ev_ss, ev_tt, ev_ll, PyData.eqvAll, PyData.canLay0, PyData.canLayAll0, PyData.depth, PyData.depthAll], w', ns ++ [(j : Int)], by simp [opd, twoD, oneD, settle, look, slotD, alias1, aliasL, lookL, asInt, asBool, fits, sizeLine, binV, cmpV, truthD, slV, biV, isTy, runF, startE, argsFit, lentBack, handBack, store_if, storeN_if, storeV, change, isOwn, io_fz, io_un, io_ow, io_io, ixL, augI, augV, callV, handOver, lentAt, shownAt, putBack, Res.need, slot, immV, isNoneD, negV, SeqAt.shaped, ev_ii, ev_bb, ev_ss, ev_tt, ev_ll, PyData.eqvAll, PyData.canLay0, PyData.canLayAll0, PyData.depth, PyData.depthAll, wipeE], hw', by simp [opd, twoD, oneD, settle, look, slotD, alias1, aliasL, lookL, asInt, asBool, fits, sizeLine, binV, cmpV, truthD, slV, biV, isTy, runF, startE, argsFit, lentBack, handBack, store_if, storeN_if, storeV, change, isOwn, io_fz, io_un, io_ow, io_io, ixL, augI, augV, callV, handOver, lentAt, shownAt, putBack, Res.need, slot, immV, isNoneD, negV, SeqAt.shaped, ev_ii, ev_bb, ev_ss, ev_tt, ev_ll, PyData.eqvAll, PyData.canLay0, PyData.canLayAll0, PyData.depth, PyData.depthAll], ?_, ?_, ?_⟩, fun _ => ⟨w', ns, by simp [opd, twoD, oneD, settle, look, slotD, alias1, aliasL, lookL, asInt, asBool, fits, sizeLine, binV, cmpV, truthD, slV, biV, isTy, runF, startE, argsFit, lentBack, handBack, store_if, storeN_if, storeV, change, isOwn, io_fz, io_un, io_ow, io_io, ixL, augI, augV, callV, handOver, lentAt, shownAt, putBack, Res.need, slot, immV, isNoneD, negV, SeqAt.shaped, ev_ii, ev_bb, ev_ss, ev_tt, ev_ll, PyData.eqvAll, PyData.canLay0, PyData.canLayAll0, PyData.depth, PyData.depthAll, wipeE], hw', rfl, p1, ?_, by omega⟩⟩
      · rw [List.pairwise_append]
        refine ⟨p1, by simp [opd, twoD, oneD, settle, look, slotD, alias1, aliasL, lookL, asInt, asBool, fits, sizeLine, binV, cmpV, truthD, slV, biV, isTy, runF, startE, argsFit, lentBack, handBack, store_if, storeN_if, storeV, change, isOwn, io_fz, io_un, io_ow, io_io, ixL, augI, augV, callV, handOver, lentAt, shownAt, putBack, Res.need, slot, immV, isNoneD, negV, SeqAt.shaped, ev_ii, ev_bb, ev_ss, ev_tt, ev_ll, PyData.eqvAll, PyData.canLay0, PyData.canLayAll0, PyData.depth, PyData.depthAll], fun a ha c hc => ?_⟩
        simp [opd, twoD, oneD, settle, look, slotD, alias1, aliasL, lookL, asInt, asBool, fits, sizeLine, binV, cmpV, truthD, slV, biV, isTy, runF, startE, argsFit, lentBack, handBack, store_if, storeN_if, storeV, change, isOwn, io_fz, io_un, io_ow, io_io, ixL, augI, augV, callV, handOver, lentAt, shownAt, putBack, Res.need, slot, immV, isNoneD, negV, SeqAt.shaped, ev_ii, ev_bb, ev_ss, ev_tt, ev_ll, PyData.eqvAll, PyData.canLay0, PyData.canLayAll0, PyData.depth, PyData.depthAll] at hc
        subst hc
        have := (p2 a ha).2
        omega
      · intro i hi
        rcases List.mem_append.mp hi with hi | hi
        · have := p2 i hi; omega
        · simp [opd, twoD, oneD, settle, look, slotD, alias1, aliasL, lookL, asInt, asBool, fits, sizeLine, binV, cmpV, truthD, slV, biV, isTy, runF, startE, argsFit, lentBack, handBack, store_if, storeN_if, storeV, change, isOwn, io_fz, io_un, io_ow, io_io, ixL, augI, augV, callV, handOver, lentAt, shownAt, putBack, Res.need, slot, immV, isNoneD, negV, SeqAt.shaped, ev_ii, ev_bb, ev_ss, ev_tt, ev_ll, PyData.eqvAll, PyData.canLay0, PyData.canLayAll0, PyData.depth, PyData.depthAll] at hi; subst hi; omega
      · simp [opd, twoD, oneD, settle, look, slotD, alias1, aliasL, lookL, asInt, asBool, fits, sizeLine, binV, cmpV, truthD, slV, biV, isTy, runF, startE, argsFit, lentBack, handBack, store_if, storeN_if, storeV, change, isOwn, io_fz, io_un, io_ow, io_io, ixL, augI, augV, callV, handOver, lentAt, shownAt, putBack, Res.need, slot, immV, isNoneD, negV, SeqAt.shaped, ev_ii, ev_bb, ev_ss, ev_tt, ev_ll, PyData.eqvAll, PyData.canLay0, PyData.canLayAll0, PyData.depth, PyData.depthAll]; omega
      · intro i hi
        have := p2 i hi
        omega) ⟨f, [], rfl, by simpa using h, rfl, by simp [opd, twoD, oneD, settle, look, slotD, alias1, aliasL, lookL, asInt, asBool, fits, sizeLine, binV, cmpV, truthD, slV, biV, isTy, runF, startE, argsFit, lentBack, handBack, store_if, storeN_if, storeV, change, isOwn, io_fz, io_un, io_ow, io_io, ixL, augI, augV, callV, handOver, lentAt, shownAt, putBack, Res.need, slot, immV, isNoneD, negV, SeqAt.shaped, ev_ii, ev_bb, ev_ss, ev_tt, ev_ll, PyData.eqvAll, PyData.canLay0, PyData.canLayAll0, PyData.depth, PyData.depthAll], by simp [opd, twoD, oneD, settle, look, slotD, alias1, aliasL, lookL, asInt, asBool, fits, sizeLine, binV, cmpV, truthD, slV, biV, isTy, runF, startE, argsFit, lentBack, handBack, store_if, storeN_if, storeV, change, isOwn, io_fz, io_un, io_ow, io_io, ixL, augI, augV, callV, handOver, lentAt, shownAt, putBack, Res.need, slot, immV, isNoneD, negV, SeqAt.shaped, ev_ii, ev_bb, ev_ss, ev_tt, ev_ll, PyData.eqvAll, PyData.canLay0, PyData.canLayAll0, PyData.depth, PyData.depthAll], by simp [opd, twoD, oneD, settle, look, slotD, alias1, aliasL, lookL, asInt, asBool, fits, sizeLine, binV, cmpV, truthD, slV, biV, isTy, runF, startE, argsFit, lentBack, handBack, store_if, storeN_if, storeV, change, isOwn, io_fz, io_un, io_ow, io_io, ixL, augI, augV, callV, handOver, lentAt, shownAt, putBack, Res.need, slot, immV, isNoneD, negV, SeqAt.shaped, ev_ii, ev_bb, ev_ss, ev_tt, ev_ll, PyData.eqvAll, PyData.canLay0, PyData.canLayAll0, PyData.depth, PyData.depthAll]⟩
  rw [List.length_map, List.length_range] at p2 p3
  refine ⟨ns, w2, ?_, ⟨p1, fun i hi => by have := p2 i hi; omega, by omega⟩, by omega, hw2.weak (by omega)⟩
  have hS := rng1_at (call := callN P (n + 1)) (lo := lentIn P) (a := .nm 1) (ρ := [.io f, .fz (.int m), .un]) (ρ1 := [.io f, .fz (.int m), .un]) (m := m) (by simp [opd, twoD, oneD, settle, look, slotD, alias1, aliasL, lookL, asInt, asBool, fits, sizeLine, binV, cmpV, truthD, slV, biV, isTy, runF, startE, argsFit, lentBack, handBack, store_if, storeN_if, storeV, change, isOwn, io_fz, io_un, io_ow, io_io, ixL, augI, augV, callV, handOver, lentAt, shownAt, putBack, Res.need, slot, immV, isNoneD, negV, SeqAt.shaped, ev_ii, ev_bb, ev_ss, ev_tt, ev_ll, PyData.eqvAll, PyData.canLay0, PyData.canLayAll0, PyData.depth, PyData.depthAll]) (by omega)
  have hc := compif_run (own := [2]) hS e2
  have s1 : evS (callN P (n + 1)) (lentIn P) (nthS f__law_row.body 0) [.io f, .fz (.int m), .un] = .ok (.ret (.d (tI ns)) [.io w2, .fz (.int m), .un]) := by
    simp [opd, twoD, oneD, settle, look, slotD, alias1, aliasL, lookL, asInt, asBool, fits, sizeLine, binV, cmpV, truthD, slV, biV, isTy, runF, startE, argsFit, lentBack, handBack, store_if, storeN_if, storeV, change, isOwn, io_fz, io_un, io_ow, io_io, ixL, augI, augV, callV, handOver, lentAt, shownAt, putBack, Res.need, slot, immV, isNoneD, negV, SeqAt.shaped, ev_ii, ev_bb, ev_ss, ev_tt, ev_ll, PyData.eqvAll, PyData.canLay0, PyData.canLayAll0, PyData.depth, PyData.depthAll, -x_E_compif, nthS, f__law_row, hc, biV, restore]
  exact call_ret (fd := f__law_row) rfl ⟨rfl, rfl⟩ (ss_ret s1) rfl rfl
end PX
namespace PX
open PySem PySem.Spec PyProof.Rows L2
def okV (v : D) : Prop := ∀ p r, v = .tuple [p, r] → okSide p ∧ okSide r
theorem okSide_ints {ns : List Int} (h : ns.length < 64) : okSide (tI ns) := fun xs e => by
  cases e
  exact ⟨Sh.ints ns, by simpa using h⟩
theorem okSide_non {d : D} (h : ∀ xs, d ≠ .tuple xs) : okSide d := fun xs e => absurd e (h xs)
theorem okV_two {p r : D} (hp : okSide p) (hr : okSide r) : okV (.tuple [p, r]) := fun a b e => by
  cases e
  exact ⟨hp, hr⟩
theorem okV_non {d : D} (h : ∀ p r, d ≠ .tuple [p, r]) : okV d := fun p r e => absurd e (h p r)
theorem okSide_bools (k : Nat) (h : k < 64) : okSide (.tuple (List.replicate k [PyData.bool true]).flatten) := fun xs e => by
  cases e
  have e : ∀ k : Nat, Sh (List.replicate k [PyData.bool true]).flatten ∧ (List.replicate k [PyData.bool true]).flatten.length = k := by
    intro k
    induction k with
    | zero => exact ⟨⟨rfl, Nat.zero_le _⟩, rfl⟩
    | succ k ih =>
      obtain ⟨⟨h1, h2⟩, h3⟩ := ih
      rw [List.replicate_succ, List.flatten_cons]
      refine ⟨⟨?_, ?_⟩, by rw [List.length_append, h3, List.length_singleton]; omega⟩
      · show (true && PyData.canLayAll0 (List.replicate k [PyData.bool true]).flatten) = true
        rw [h1]; rfl
      · show max 0 (PyData.depthAll (List.replicate k [PyData.bool true]).flatten) ≤ 60
        omega
  obtain ⟨h1, h2⟩ := e k
  exact ⟨h1, by rw [h2]; exact h⟩
theorem inB_small {k : Nat} (h : k ≤ 1000) : inB 0 1000 (k : Int) = true := inB_iff.mpr ⟨by omega, by omega⟩
section
variable {a b a1 b1 bl bi : List Int}
def bent1 (m : Nat) (a b bl : List Int) : List D := [.tuple [.tuple (a.map PyData.int ++ [.int m]), tI b], .tuple [.tuple (a.map PyData.int).reverse, tI b], .tuple [tI a, .tuple (b.map PyData.int ++ bl.map PyData.int)], .tuple [.list (a.map PyData.int), tI b], .tuple [tI a, .list (b.map PyData.int)]]
def bent2 (a b a1 b1 : List Int) : List D := [.tuple [tI a, tI b, .tuple []], .tuple [tI a], .none, .list [tI a, tI b], .tuple [tI b, tI a], .tuple [tI a1, tI b1], .tuple [tI a1, tI b]]
def bent3 (m : Nat) (a b b1 bi : List Int) : List D := [.tuple [tI a, tI bi], .tuple [tI a, .tuple (List.replicate b.length [PyData.bool true]).flatten], .tuple [tI a, .none], .tuple [.str (Str.ofString "0"), tI b], .tuple [.tuple [], .tuple []], .tuple [tI a, .tuple (b1.map PyData.int ++ [.int m])], .int 5]
theorem bent_ok {m : Nat} (ha : a.length ≤ 10) (hb : b.length ≤ 10) (ha1 : a1.length ≤ 10) (hb1 : b1.length ≤ 10) (hbl : bl.length ≤ 10) (hbi : bi.length ≤ 10) : ∀ w ∈ bent1 m a b bl ++ bent2 a b a1 b1 ++ bent3 m a b b1 bi, okV w := by
  have A := okSide_ints (ns := a) (by omega)
  have B := okSide_ints (ns := b) (by omega)
  have A1 := okSide_ints (ns := a1) (by omega)
  have B1 := okSide_ints (ns := b1) (by omega)
  have BI := okSide_ints (ns := bi) (by omega)
  have c1 := okSide_ints (ns := a ++ [(m : Int)]) (by simp [opd, twoD, oneD, settle, look, slotD, alias1, aliasL, lookL, asInt, asBool, fits, sizeLine, binV, cmpV, truthD, slV, biV, isTy, runF, startE, argsFit, lentBack, handBack, store_if, storeN_if, storeV, change, isOwn, io_fz, io_un, io_ow, io_io, ixL, augI, augV, callV, handOver, lentAt, shownAt, putBack, Res.need, slot, immV, isNoneD, negV, SeqAt.shaped, ev_ii, ev_bb, ev_ss, ev_tt, ev_ll, PyData.eqvAll, PyData.canLay0, PyData.canLayAll0, PyData.depth, PyData.depthAll]; omega)
  have c2 := okSide_ints (ns := a.reverse) (by simp [opd, twoD, oneD, settle, look, slotD, alias1, aliasL, lookL, asInt, asBool, fits, sizeLine, binV, cmpV, truthD, slV, biV, isTy, runF, startE, argsFit, lentBack, handBack, store_if, storeN_if, storeV, change, isOwn, io_fz, io_un, io_ow, io_io, ixL, augI, augV, callV, handOver, lentAt, shownAt, putBack, Res.need, slot, immV, isNoneD, negV, SeqAt.shaped, ev_ii, ev_bb, ev_ss, ev_tt, ev_ll, PyData.eqvAll, PyData.canLay0, PyData.canLayAll0, PyData.depth, PyData.depthAll]; omega)
  have c3 := okSide_ints (ns := b ++ bl) (by simp [opd, twoD, oneD, settle, look, slotD, alias1, aliasL, lookL, asInt, asBool, fits, sizeLine, binV, cmpV, truthD, slV, biV, isTy, runF, startE, argsFit, lentBack, handBack, store_if, storeN_if, storeV, change, isOwn, io_fz, io_un, io_ow, io_io, ixL, augI, augV, callV, handOver, lentAt, shownAt, putBack, Res.need, slot, immV, isNoneD, negV, SeqAt.shaped, ev_ii, ev_bb, ev_ss, ev_tt, ev_ll, PyData.eqvAll, PyData.canLay0, PyData.canLayAll0, PyData.depth, PyData.depthAll]; omega)
  have c4 := okSide_ints (ns := b1 ++ [(m : Int)]) (by simp [opd, twoD, oneD, settle, look, slotD, alias1, aliasL, lookL, asInt, asBool, fits, sizeLine, binV, cmpV, truthD, slV, biV, isTy, runF, startE, argsFit, lentBack, handBack, store_if, storeN_if, storeV, change, isOwn, io_fz, io_un, io_ow, io_io, ixL, augI, augV, callV, handOver, lentAt, shownAt, putBack, Res.need, slot, immV, isNoneD, negV, SeqAt.shaped, ev_ii, ev_bb, ev_ss, ev_tt, ev_ll, PyData.eqvAll, PyData.canLay0, PyData.canLayAll0, PyData.depth, PyData.depthAll]; omega)
  simp only [tI, List.map_append, List.map_reverse, List.map_cons, List.map_nil] at c1 c2 c3 c4
  have c5 := okSide_bools b.length (by omega)
  have c0 := okSide_ints (ns := []) (by simp [opd, twoD, oneD, settle, look, slotD, alias1, aliasL, lookL, asInt, asBool, fits, sizeLine, binV, cmpV, truthD, slV, biV, isTy, runF, startE, argsFit, lentBack, handBack, store_if, storeN_if, storeV, change, isOwn, io_fz, io_un, io_ow, io_io, ixL, augI, augV, callV, handOver, lentAt, shownAt, putBack, Res.need, slot, immV, isNoneD, negV, SeqAt.shaped, ev_ii, ev_bb, ev_ss, ev_tt, ev_ll, PyData.eqvAll, PyData.canLay0, PyData.canLayAll0, PyData.depth, PyData.depthAll])
  intro w hw
  simp only [bent1, bent2, bent3, List.mem_append, List.mem_cons, List.not_mem_nil, or_false] at hw
  rcases hw with ((rfl | rfl | rfl | rfl | rfl) | (rfl | rfl | rfl | rfl | rfl | rfl | rfl)) | (rfl | rfl | rfl | rfl | rfl | rfl | rfl)
  · exact okV_two c1 B
  · exact okV_two c2 B
  · exact okV_two A c3
  · exact okV_two (okSide_non fun _ h => by cases h) B
  · exact okV_two A (okSide_non fun _ h => by cases h)
  · exact okV_non fun _ _ h => by cases h
  · exact okV_non fun _ _ h => by cases h
  · exact okV_non fun _ _ h => by cases h
  · exact okV_non fun _ _ h => by cases h
  · exact okV_two B A
  · exact okV_two A1 B1
  · exact okV_two A1 B
  · exact okV_two A BI
  · exact okV_two A c5
  · exact okV_two A (okSide_non fun _ h => by cases h)
  · exact okV_two (okSide_non fun _ h => by cases h) B
  · exact okV_two c0 c0
  · exact okV_two A c4
  · exact okV_non fun _ _ h => by cases h
end
theorem c_bent (n : Nat) {k m : Nat} {f : List D} {a b : List Int} (h : Feed (k + 1) f) (ha : a.length ≤ 9) (hb : b.length ≤ 9) :
    ∃ (w : D) (f' : List D), callN P (n + 2) "_law_bent" [.io f, .fz (.tuple [tI a, tI b]), .fz (.int (m : Int))] = .ok (.d w, [f']) ∧ okV w ∧ Feed k f' := by
  obtain ⟨bl, sl, el⟩ := cut_ints b (some (-1)) none
  obtain ⟨a1, sa, ea⟩ := cut_ints a (some 1) none
  obtain ⟨b1, sb, eb1⟩ := cut_ints b (some 1) none
  obtain ⟨bi, si, ei⟩ := cut_ints b none (some (-1))
  have hl1 := sl.length_le
  have hl2 := sa.length_le
  have hl3 := sb.length_le
  have hl4 := si.length_le
  have z1 : a.length ≤ 16777215 := by omega
  have z2 : b.length + bl.length ≤ 16777216 := by omega
  have z3 : b1.length ≤ 16777215 := by omega
  have z4 := inB_small (k := b.length) (by omega)
  obtain ⟨d, f', e1, d1, hf'⟩ := c_drawn n (b := k) (f := f) 19 h (by omega) (by omega)
  simp only [Int.cast_ofNat_Int] at e1
  have s0 : evS (callN P (n + 1)) (lentIn P) (nthS f__law_bent.body 0) [.io f, .fz (.tuple [tI a, tI b]), .fz (.int m), .un, .un, .un] = .ok (.nx [.io f, .fz (.tuple [tI a, tI b]), .fz (.int m), .fz (tI a), .fz (tI b), .un]) := by
    simp [opd, twoD, oneD, settle, look, slotD, alias1, aliasL, lookL, asInt, asBool, fits, sizeLine, binV, cmpV, truthD, slV, biV, isTy, runF, startE, argsFit, lentBack, handBack, store_if, storeN_if, storeV, change, isOwn, io_fz, io_un, io_ow, io_io, ixL, augI, augV, callV, handOver, lentAt, shownAt, putBack, Res.need, slot, immV, isNoneD, negV, SeqAt.shaped, ev_ii, ev_bb, ev_ss, ev_tt, ev_ll, PyData.eqvAll, PyData.canLay0, PyData.canLayAll0, PyData.depth, PyData.depthAll, nthS, f__law_bent, storeTg, storeAll]
  have s1 : evS (callN P (n + 1)) (lentIn P) (nthS f__law_bent.body 1) [.io f, .fz (.tuple [tI a, tI b]), .fz (.int m), .fz (tI a), .fz (tI b), .un] = .ok (.nx [.io f, .fz (.tuple [tI a, tI b]), .fz (.int m), .fz (tI a), .fz (tI b), .fz (.list (bent1 m a b bl))]) := by
    simp [opd, twoD, oneD, settle, look, slotD, alias1, aliasL, lookL, asInt, asBool, fits, sizeLine, binV, cmpV, truthD, slV, biV, isTy, runF, startE, argsFit, lentBack, handBack, store_if, storeN_if, storeV, change, isOwn, io_fz, io_un, io_ow, io_io, ixL, augI, augV, callV, handOver, lentAt, shownAt, putBack, Res.need, slot, immV, isNoneD, negV, SeqAt.shaped, ev_ii, ev_bb, ev_ss, ev_tt, ev_ll, PyData.eqvAll, PyData.canLay0, PyData.canLayAll0, PyData.depth, PyData.depthAll, nthS, f__law_bent, z1, z2, revV, el, biV, bent1]
  have s2 : evS (callN P (n + 1)) (lentIn P) (nthS f__law_bent.body 2) [.io f, .fz (.tuple [tI a, tI b]), .fz (.int m), .fz (tI a), .fz (tI b), .fz (.list (bent1 m a b bl))] = .ok (.nx [.io f, .fz (.tuple [tI a, tI b]), .fz (.int m), .fz (tI a), .fz (tI b), .fz (.list (bent1 m a b bl ++ bent2 a b a1 b1))]) := by
    have hz : (bent1 m a b bl).length = 5 := rfl
    generalize bent1 m a b bl = L at hz ⊢
    simp [opd, twoD, oneD, settle, look, slotD, alias1, aliasL, lookL, asInt, asBool, fits, sizeLine, binV, cmpV, truthD, slV, biV, isTy, runF, startE, argsFit, lentBack, handBack, store_if, storeN_if, storeV, change, isOwn, io_fz, io_un, io_ow, io_io, ixL, augI, augV, callV, handOver, lentAt, shownAt, putBack, Res.need, slot, immV, isNoneD, negV, SeqAt.shaped, ev_ii, ev_bb, ev_ss, ev_tt, ev_ll, PyData.eqvAll, PyData.canLay0, PyData.canLayAll0, PyData.depth, PyData.depthAll, nthS, f__law_bent, ea, eb1, hz, bent2]
  have s3 : evS (callN P (n + 1)) (lentIn P) (nthS f__law_bent.body 3) [.io f, .fz (.tuple [tI a, tI b]), .fz (.int m), .fz (tI a), .fz (tI b), .fz (.list (bent1 m a b bl ++ bent2 a b a1 b1))] = .ok (.nx [.io f, .fz (.tuple [tI a, tI b]), .fz (.int m), .fz (tI a), .fz (tI b), .fz (.list (bent1 m a b bl ++ bent2 a b a1 b1 ++ bent3 m a b b1 bi))]) := by
    have hz : (bent1 m a b bl ++ bent2 a b a1 b1).length = 12 := rfl
    generalize bent1 m a b bl ++ bent2 a b a1 b1 = L at hz ⊢
    simp [opd, twoD, oneD, settle, look, slotD, alias1, aliasL, lookL, asInt, asBool, fits, sizeLine, binV, cmpV, truthD, slV, biV, isTy, runF, startE, argsFit, lentBack, handBack, store_if, storeN_if, storeV, change, isOwn, io_fz, io_un, io_ow, io_io, ixL, augI, augV, callV, handOver, lentAt, shownAt, putBack, Res.need, slot, immV, isNoneD, negV, SeqAt.shaped, ev_ii, ev_bb, ev_ss, ev_tt, ev_ll, PyData.eqvAll, PyData.canLay0, PyData.canLayAll0, PyData.depth, PyData.depthAll, nthS, f__law_bent, eb1, ei, hz, z3, z4, biV, bent3]
  have hL : (bent1 m a b bl ++ bent2 a b a1 b1 ++ bent3 m a b b1 bi).length = 19 := rfl
  have hok := bent_ok (m := m) (a := a) (b := b) (a1 := a1) (b1 := b1) (bl := bl) (bi := bi) (by omega) (by omega) (by omega) (by omega) (by omega) (by omega)
  generalize bent1 m a b bl ++ bent2 a b a1 b1 ++ bent3 m a b b1 bi = L at s3 hL hok
  have hdl : d < L.length := by omega
  have eat : atI L (d : Int) = some L[d] := by rw [atI_nat hdl, List.getElem?_eq_getElem hdl]
  have s4 : evS (callN P (n + 1)) (lentIn P) (nthS f__law_bent.body 4) [.io f, .fz (.tuple [tI a, tI b]), .fz (.int m), .fz (tI a), .fz (tI b), .fz (.list L)] = .ok (.ret (.d L[d]) [.io f', .fz (.tuple [tI a, tI b]), .fz (.int m), .fz (tI a), .fz (tI b), .fz (.list L)]) := by
    simp [opd, twoD, oneD, settle, look, slotD, alias1, aliasL, lookL, asInt, asBool, fits, sizeLine, binV, cmpV, truthD, slV, biV, isTy, runF, startE, argsFit, lentBack, handBack, store_if, storeN_if, storeV, change, isOwn, io_fz, io_un, io_ow, io_io, ixL, augI, augV, callV, handOver, lentAt, shownAt, putBack, Res.need, slot, immV, isNoneD, negV, SeqAt.shaped, ev_ii, ev_bb, ev_ss, ev_tt, ev_ll, PyData.eqvAll, PyData.canLay0, PyData.canLayAll0, PyData.depth, PyData.depthAll, nthS, f__law_bent, l_drawn, e1, ixV, eat]
  refine ⟨L[d], f', ?_, hok _ (List.getElem_mem hdl), hf'⟩
  exact call_ret (fd := f__law_bent) (v := .d L[d]) (ρ1 := [.io f', .fz (.tuple [tI a, tI b]), .fz (.int m), .fz (tI a), .fz (tI b), .fz (.list L)]) rfl ⟨rfl, rfl⟩ ((ss_nx s0).trans ((ss_nx s1).trans ((ss_nx s2).trans ((ss_nx s3).trans (ss_ret s4))))) rfl rfl
end PX
namespace PX
open PySem PySem.Spec PyProof.Rows L2
def lawBody : Ss := match nthS f_law.body 1 with
  | .for_ _ _ b => b
  | _ => .nil
abbrev C : CallT := callN P 11
abbrev Lo : String → Option (List Nat) := lentIn P
theorem cut_map {α : Type} (g : α → D) (o : List α) (lo hi : Option Int) : ∃ k : List α, k.Sublist o ∧ cutD (o.map g) lo hi = k.map g := by
  unfold cutD
  rw [← List.map_drop, ← List.map_take]
  exact ⟨_, (List.take_sublist _ _).trans (List.drop_sublist _ _), rfl⟩
def GoodV (v : D) : Prop := ∃ a b : List Int, v = .tuple [tI a, tI b] ∧ a.length ≤ 9 ∧ b.length ≤ 9
theorem GoodV.ok {v : D} (h : GoodV v) : okV v := by
  obtain ⟨a, b, rfl, h1, h2⟩ := h
  exact okV_two (okSide_ints (by omega)) (okSide_ints (by omega))
theorem setB_of {m : Int} {ns : List Int} (h1 : ns.Pairwise (· < ·)) (h2 : ∀ i ∈ ns, 0 ≤ i ∧ i < m) : setB m (tI ns) = true := by
  show (match asInts (ns.map PyData.int) with | some ns => (ns == setZ ns) && ns.all fun i => decide (0 ≤ i) && decide (i < m) | none => false) = true
  rw [asInts_ints]
  simp only [Bool.and_eq_true]
  exact ⟨beq_iff_eq.mpr (setZ_eq.mpr h1), List.all_eq_true.mpr fun i hi => by simpa using h2 i hi⟩
/-- a table: one to six columns, up to six rows, none empty -/
structure Tab (m : Nat) (rows : List (List Int)) : Prop where
  m1 : 1 ≤ m
  m6 : m ≤ 6
  row : ∀ r ∈ rows, RowZ m r
  len : ∀ r ∈ rows, r.length ≤ 10
  full : rows.any (·.isEmpty) = false
  few : rows.length ≤ 6
/-- the fewest columns that meet all rows -/
def meeting (m : Nat) (rows : List (List Int)) : List (List Int) := (lotsZ m).filter fun l => meetsB rows l
def fewest (m : Nat) (rows : List (List Int)) : Int := match (meeting m rows).map fun l => (l.length : Int) with
  | [] => 0
  | n :: ns => leastZ n ns
theorem Tab.meets {m : Nat} {rows : List (List Int)} (h : Tab m rows) : colsZ m ∈ meeting m rows := by
  refine List.mem_filter.mpr ⟨lotsZ_all (cols_lt m) fun i hi => mem_cols.mp hi, List.all_eq_true.mpr fun r hr => ?_⟩
  have hne : r.isEmpty = false := by
    have := h.full
    rw [List.any_eq_false] at this
    simpa using this r hr
  cases r with
  | nil => cases hne
  | cons x r =>
    have := (h.row _ hr).2.1 x List.mem_cons_self
    exact List.any_eq_true.mpr ⟨x, mem_cols.mpr this, by simp [opd, twoD, oneD, settle, look, slotD, alias1, aliasL, lookL, asInt, asBool, fits, sizeLine, binV, cmpV, truthD, slV, biV, isTy, runF, startE, argsFit, lentBack, handBack, store_if, storeN_if, storeV, change, isOwn, io_fz, io_un, io_ow, io_io, ixL, augI, augV, callV, handOver, lentAt, shownAt, putBack, Res.need, slot, immV, isNoneD, negV, SeqAt.shaped, ev_ii, ev_bb, ev_ss, ev_tt, ev_ll, PyData.eqvAll, PyData.canLay0, PyData.canLayAll0, PyData.depth, PyData.depthAll]⟩
theorem Tab.least {m : Nat} {rows : List (List Int)} (h : Tab m rows) : ∃ n ns, (meeting m rows).map (fun l => (l.length : Int)) = n :: ns ∧ fewest m rows = leastZ n ns := by
  have hm := h.meets
  unfold fewest
  cases hq : (meeting m rows).map fun l => (l.length : Int) with
  | nil =>
    rw [List.map_eq_nil_iff] at hq
    rw [hq] at hm
    cases hm
  | cons n ns => exact ⟨n, ns, rfl, rfl⟩
theorem due_few {m : Nat} {rows : List (List Int)} (h : Tab m rows) {p r : D} (hp : pairB m rows (.tuple [p, r]) = true) : ((ints1 p).length : Int) = fewest m rows := by
  simp only [pairB, Bool.and_eq_true] at hp
  obtain ⟨h1, h2, h3, h4, h5⟩ := hp
  obtain ⟨ps, rfl, p1, p2⟩ := setB_is h1
  obtain ⟨rs, rfl, r1, r2⟩ := setB_is h2
  rw [ints1_tI] at h3 h4 ⊢
  rw [ints1_tI] at h3 h5
  have h3 : ps.length = rs.length := beq_iff_eq.mp h3
  obtain ⟨n, ns, e1, e2⟩ := h.least
  have hin : ps ∈ meeting m rows := List.mem_filter.mpr ⟨lotsZ_all p1 p2, h4⟩
  have hle := leastZ_le ns n (ps.length : Int) (by rw [← e1]; exact List.mem_map.mpr ⟨ps, hin, rfl⟩)
  have hmem := leastZ_mem ns n
  rw [← e1] at hmem
  obtain ⟨l, hl, el⟩ := List.mem_map.mp hmem
  have hap := apart_le h5 r2 (List.mem_filter.mp hl).2
  rw [e2]
  omega
section
variable {scr : D} {f : List D} {b m : Nat} {rows : List (List Int)} {s2 s3 s4 s5 s6 s7 s8 s9 s10 s11 s12 s13 s14 s15 s16 : Slot}
theorem w_0 (hf : Feed (b + 1) f) (h3 : isIo s3 = false) : ∃ (m : Nat) (f' : List D), evS C Lo (nthS lawBody 0) [.fz scr, .ow f, s2, s3, s4, s5, s6, s7, s8, s9, s10, s11, s12, s13, s14, s15, s16] = .ok (.nx [.fz scr, .ow f', s2, .fz (.int m), s4, s5, s6, s7, s8, s9, s10, s11, s12, s13, s14, s15, s16]) ∧ 1 ≤ m ∧ m ≤ 6 ∧ Feed b f' := by
  obtain ⟨d, f', e, d1, hf'⟩ := c_drawn 10 (b := b) (f := f) 6 hf (by omega) (by omega)
  have e2 : (1 : Int) + (d : Int) = ((d + 1 : Nat) : Int) := by omega
  refine ⟨d + 1, f', ?_, by omega, by omega, hf'⟩
  simp [opd, twoD, oneD, settle, look, slotD, alias1, aliasL, lookL, asInt, asBool, fits, sizeLine, binV, cmpV, truthD, slV, biV, isTy, runF, startE, argsFit, lentBack, handBack, store_if, storeN_if, storeV, change, isOwn, io_fz, io_un, io_ow, io_io, ixL, augI, augV, callV, handOver, lentAt, shownAt, putBack, Res.need, slot, immV, isNoneD, negV, SeqAt.shaped, ev_ii, ev_bb, ev_ss, ev_tt, ev_ll, PyData.eqvAll, PyData.canLay0, PyData.canLayAll0, PyData.depth, PyData.depthAll] at e
  rw [← e2]
  simp [opd, twoD, oneD, settle, look, slotD, alias1, aliasL, lookL, asInt, asBool, fits, sizeLine, binV, cmpV, truthD, slV, biV, isTy, runF, startE, argsFit, lentBack, handBack, store_if, storeN_if, storeV, change, isOwn, io_fz, io_un, io_ow, io_io, ixL, augI, augV, callV, handOver, lentAt, shownAt, putBack, Res.need, slot, immV, isNoneD, negV, SeqAt.shaped, ev_ii, ev_bb, ev_ss, ev_tt, ev_ll, PyData.eqvAll, PyData.canLay0, PyData.canLayAll0, PyData.depth, PyData.depthAll, nthS, lawBody, f_law, l_drawn, e, h3]
theorem w_1 (hm : m ≤ 6) (hf : Feed (b + 100) f) (h4 : isIo s4 = false) : ∃ (rows : List (List Int)) (f' : List D), evS C Lo (nthS lawBody 1) [.fz scr, .ow f, s2, .fz (.int m), s4, s5, s6, s7, s8, s9, s10, s11, s12, s13, s14, s15, s16] = .ok (.nx [.fz scr, .ow f', s2, .fz (.int m), .fz (.list (rows.map tI)), s5, s6, s7, s8, s9, s10, s11, s12, s13, s14, s15, s16]) ∧ (∀ r ∈ rows, RowZ m r ∧ r.length ≤ 10) ∧ rows.length ≤ 6 ∧ Feed b f' := by
  obtain ⟨c, f1, e1, c1, hf1⟩ := c_drawn 10 (b := b + 99) (f := f) 7 hf (by omega) (by omega)
  obtain ⟨ρ', acc', e2, f2, rows, rfl, hf2, rfl, p1, p2⟩ := turns_ok (tg := .nm 14) (own := [14]) (test := tT) (elt := cE C Lo (.call "_law_row" (.cons (.nm 1) (.cons (.nm 3) .nil)))) (xs := (List.range c).map fun (k : Nat) => .int k) (ρ := [.fz scr, .ow f1, s2, .fz (.int m), s4, s5, s6, s7, s8, s9, s10, s11, s12, s13, .un, s15, s16]) (acc := [])
    (fun k ρ acc => ∃ (f : List D) (rows : List (List Int)), ρ = [.fz scr, .ow f, s2, .fz (.int m), s4, s5, s6, s7, s8, s9, s10, s11, s12, s13, .un, s15, s16] ∧ Feed (b + (99 - k * 10)) f ∧ acc = rows.map tI ∧ (∀ r ∈ rows, RowZ m r ∧ r.length ≤ 10) ∧ rows.length = k) 0
    (fun j x ρ acc hj hI => by
      obtain ⟨f, rows, rfl, hf, rfl, p1, p2⟩ := hI
      obtain ⟨hjm, rfl⟩ := range_at hj
      obtain ⟨r, f', e, hr, hrl, hf'⟩ := c_row 9 (b := b + (99 - (0 + j + 1) * 10)) (m := m) (f := f) (hf.weak (by omega)) (by omega)
      simp only [Nat.reduceAdd] at e
      refine ⟨[.fz scr, .ow f, s2, .fz (.int m), s4, s5, s6, s7, s8, s9, s10, s11, s12, s13, .fz (.int j), s15, s16], true, [.fz scr, .ow f, s2, .fz (.int m), s4, s5, s6, s7, s8, s9, s10, s11, s12, s13, .fz (.int j), s15, s16], by simp [opd, twoD, oneD, settle, look, slotD, alias1, aliasL, lookL, asInt, asBool, fits, sizeLine, binV, cmpV, truthD, slV, biV, isTy, runF, startE, argsFit, lentBack, handBack, store_if, storeN_if, storeV, change, isOwn, io_fz, io_un, io_ow, io_io, ixL, augI, augV, callV, handOver, lentAt, shownAt, putBack, Res.need, slot, immV, isNoneD, negV, SeqAt.shaped, ev_ii, ev_bb, ev_ss, ev_tt, ev_ll, PyData.eqvAll, PyData.canLay0, PyData.canLayAll0, PyData.depth, PyData.depthAll, storeTg], by simp [opd, twoD, oneD, settle, look, slotD, alias1, aliasL, lookL, asInt, asBool, fits, sizeLine, binV, cmpV, truthD, slV, biV, isTy, runF, startE, argsFit, lentBack, handBack, store_if, storeN_if, storeV, change, isOwn, io_fz, io_un, io_ow, io_io, ixL, augI, augV, callV, handOver, lentAt, shownAt, putBack, Res.need, slot, immV, isNoneD, negV, SeqAt.shaped, ev_ii, ev_bb, ev_ss, ev_tt, ev_ll, PyData.eqvAll, PyData.canLay0, PyData.canLayAll0, PyData.depth, PyData.depthAll], fun _ => ⟨.d (tI r), [.fz scr, .ow f', s2, .fz (.int m), s4, s5, s6, s7, s8, s9, s10, s11, s12, s13, .fz (.int j), s15, s16], tI r, [.fz scr, .ow f', s2, .fz (.int m), s4, s5, s6, s7, s8, s9, s10, s11, s12, s13, .fz (.int j), s15, s16], by simp [opd, twoD, oneD, settle, look, slotD, alias1, aliasL, lookL, asInt, asBool, fits, sizeLine, binV, cmpV, truthD, slV, biV, isTy, runF, startE, argsFit, lentBack, handBack, store_if, storeN_if, storeV, change, isOwn, io_fz, io_un, io_ow, io_io, ixL, augI, augV, callV, handOver, lentAt, shownAt, putBack, Res.need, slot, immV, isNoneD, negV, SeqAt.shaped, ev_ii, ev_bb, ev_ss, ev_tt, ev_ll, PyData.eqvAll, PyData.canLay0, PyData.canLayAll0, PyData.depth, PyData.depthAll, l_row, e], by simp [opd, twoD, oneD, settle, look, slotD, alias1, aliasL, lookL, asInt, asBool, fits, sizeLine, binV, cmpV, truthD, slV, biV, isTy, runF, startE, argsFit, lentBack, handBack, store_if, storeN_if, storeV, change, isOwn, io_fz, io_un, io_ow, io_io, ixL, augI, augV, callV, handOver, lentAt, shownAt, putBack, Res.need, slot, immV, isNoneD, negV, SeqAt.shaped, ev_ii, ev_bb, ev_ss, ev_tt, ev_ll, PyData.eqvAll, PyData.canLay0, PyData.canLayAll0, PyData.depth, PyData.depthAll], f', rows ++ [r], by simp [opd, twoD, oneD, settle, look, slotD, alias1, aliasL, lookL, asInt, asBool, fits, sizeLine, binV, cmpV, truthD, slV, biV, isTy, runF, startE, argsFit, lentBack, handBack, store_if, storeN_if, storeV, change, isOwn, io_fz, io_un, io_ow, io_io, ixL, augI, augV, callV, handOver, lentAt, shownAt, putBack, Res.need, slot, immV, isNoneD, negV, SeqAt.shaped, ev_ii, ev_bb, ev_ss, ev_tt, ev_ll, PyData.eqvAll, PyData.canLay0, PyData.canLayAll0, PyData.depth, PyData.depthAll, wipeE], hf', by simp [opd, twoD, oneD, settle, look, slotD, alias1, aliasL, lookL, asInt, asBool, fits, sizeLine, binV, cmpV, truthD, slV, biV, isTy, runF, startE, argsFit, lentBack, handBack, store_if, storeN_if, storeV, change, isOwn, io_fz, io_un, io_ow, io_io, ixL, augI, augV, callV, handOver, lentAt, shownAt, putBack, Res.need, slot, immV, isNoneD, negV, SeqAt.shaped, ev_ii, ev_bb, ev_ss, ev_tt, ev_ll, PyData.eqvAll, PyData.canLay0, PyData.canLayAll0, PyData.depth, PyData.depthAll], ?_, by simp [opd, twoD, oneD, settle, look, slotD, alias1, aliasL, lookL, asInt, asBool, fits, sizeLine, binV, cmpV, truthD, slV, biV, isTy, runF, startE, argsFit, lentBack, handBack, store_if, storeN_if, storeV, change, isOwn, io_fz, io_un, io_ow, io_io, ixL, augI, augV, callV, handOver, lentAt, shownAt, putBack, Res.need, slot, immV, isNoneD, negV, SeqAt.shaped, ev_ii, ev_bb, ev_ss, ev_tt, ev_ll, PyData.eqvAll, PyData.canLay0, PyData.canLayAll0, PyData.depth, PyData.depthAll, p2]⟩, fun h => by cases h⟩
      intro q hq
      rcases List.mem_append.mp hq with hq | hq
      · exact p1 q hq
      · simp [opd, twoD, oneD, settle, look, slotD, alias1, aliasL, lookL, asInt, asBool, fits, sizeLine, binV, cmpV, truthD, slV, biV, isTy, runF, startE, argsFit, lentBack, handBack, store_if, storeN_if, storeV, change, isOwn, io_fz, io_un, io_ow, io_io, ixL, augI, augV, callV, handOver, lentAt, shownAt, putBack, Res.need, slot, immV, isNoneD, negV, SeqAt.shaped, ev_ii, ev_bb, ev_ss, ev_tt, ev_ll, PyData.eqvAll, PyData.canLay0, PyData.canLayAll0, PyData.depth, PyData.depthAll] at hq; subst hq; exact ⟨hr, hrl⟩) ⟨f1, [], rfl, hf1.weak (by omega), rfl, by simp [opd, twoD, oneD, settle, look, slotD, alias1, aliasL, lookL, asInt, asBool, fits, sizeLine, binV, cmpV, truthD, slV, biV, isTy, runF, startE, argsFit, lentBack, handBack, store_if, storeN_if, storeV, change, isOwn, io_fz, io_un, io_ow, io_io, ixL, augI, augV, callV, handOver, lentAt, shownAt, putBack, Res.need, slot, immV, isNoneD, negV, SeqAt.shaped, ev_ii, ev_bb, ev_ss, ev_tt, ev_ll, PyData.eqvAll, PyData.canLay0, PyData.canLayAll0, PyData.depth, PyData.depthAll], rfl⟩
  rw [List.length_map, List.length_range] at p2
  refine ⟨rows, f2, ?_, p1, by omega, hf2.weak (by omega)⟩
  simp only [Int.cast_ofNat_Int, Nat.reduceAdd] at e1
  have hS := rng1_at (call := C) (lo := Lo) (a := .call "_law_drawn" (.cons (.nm 1) (.cons (.c (.int (7))) .nil))) (ρ := [.fz scr, .ow f, s2, .fz (.int m), s4, s5, s6, s7, s8, s9, s10, s11, s12, s13, s14, s15, s16]) (ρ1 := [.fz scr, .ow f1, s2, .fz (.int m), s4, s5, s6, s7, s8, s9, s10, s11, s12, s13, s14, s15, s16]) (m := c) (by simp [opd, twoD, oneD, settle, look, slotD, alias1, aliasL, lookL, asInt, asBool, fits, sizeLine, binV, cmpV, truthD, slV, biV, isTy, runF, startE, argsFit, lentBack, handBack, store_if, storeN_if, storeV, change, isOwn, io_fz, io_un, io_ow, io_io, ixL, augI, augV, callV, handOver, lentAt, shownAt, putBack, Res.need, slot, immV, isNoneD, negV, SeqAt.shaped, ev_ii, ev_bb, ev_ss, ev_tt, ev_ll, PyData.eqvAll, PyData.canLay0, PyData.canLayAll0, PyData.depth, PyData.depthAll, l_drawn, e1]) (by omega)
  have hc := comp_run (own := [14]) hS e2
  have e0 : nthS lawBody 1 = .asg 4 false (.comp (.call "_law_row" (.cons (.nm 1) (.cons (.nm 3) .nil))) (.nm 14) (.rng1 (.call "_law_drawn" (.cons (.nm 1) (.cons (.c (.int (7))) .nil)))) [14]) := rfl
  rw [e0, x_S_asg, hc]
  simp [opd, twoD, oneD, settle, look, slotD, alias1, aliasL, lookL, asInt, asBool, fits, sizeLine, binV, cmpV, truthD, slV, biV, isTy, runF, startE, argsFit, lentBack, handBack, store_if, storeN_if, storeV, change, isOwn, io_fz, io_un, io_ow, io_io, ixL, augI, augV, callV, handOver, lentAt, shownAt, putBack, Res.need, slot, immV, isNoneD, negV, SeqAt.shaped, ev_ii, ev_bb, ev_ss, ev_tt, ev_ll, PyData.eqvAll, PyData.canLay0, PyData.canLayAll0, PyData.depth, PyData.depthAll, restore, h4]
theorem w_2 {rows0 : List (List Int)} (hm1 : 1 ≤ m) (hm : m ≤ 6) (hr : ∀ r ∈ rows0, RowZ m r ∧ r.length ≤ 10) (hl : rows0.length ≤ 6) (hf : Feed (b + 10) f) (h5 : isIo s5 = false) : ∃ (rows : List (List Int)) (f' : List D), evS C Lo (nthS lawBody 2) [.fz scr, .ow f, s2, .fz (.int m), .fz (.list (rows0.map tI)), s5, s6, s7, s8, s9, s10, s11, s12, s13, s14, s15, s16] = .ok (.nx [.fz scr, .ow f', s2, .fz (.int m), .fz (.list (rows0.map tI)), .fz (board m rows), s6, s7, s8, s9, s10, s11, s12, s13, s14, s15, s16]) ∧ Tab m rows ∧ rows.length = rows0.length ∧ Feed b f' := by
  obtain ⟨ρ', acc', e2, f2, rows, rfl, hf2, rfl, p1, p2⟩ := turns_ok (tg := .nm 15) (own := [15]) (test := tT) (elt := cE C Lo (.ife (.val (.cmp .NotEq (.nm 15) (.tup .nil))) (.nm 15) (.tup (.cons (.call "_law_drawn" (.cons (.nm 1) (.cons (.nm 3) .nil))) .nil)))) (xs := rows0.map tI) (ρ := [.fz scr, .ow f, s2, .fz (.int m), .fz (.list (rows0.map tI)), s5, s6, s7, s8, s9, s10, s11, s12, s13, s14, .un, s16]) (acc := [])
    (fun k ρ acc => ∃ (f : List D) (rows : List (List Int)), ρ = [.fz scr, .ow f, s2, .fz (.int m), .fz (.list (rows0.map tI)), s5, s6, s7, s8, s9, s10, s11, s12, s13, s14, .un, s16] ∧ Feed (b + (10 - k)) f ∧ acc = rows.map tI ∧ (∀ r ∈ rows, (RowZ m r ∧ r.length ≤ 10) ∧ r.isEmpty = false) ∧ rows.length = k) 0
    (fun j x ρ acc hj hI => by
      obtain ⟨f, rows, rfl, hf, rfl, p1, p2⟩ := hI
      rw [List.getElem?_map] at hj
      cases hx : rows0[j]? with
      | none => rw [hx] at hj; cases hj
      | some r =>
      rw [hx] at hj
      cases hj
      have hrm := hr r (List.mem_of_getElem? hx)
      have hjl : j < rows0.length := (List.getElem?_eq_some_iff.mp hx).1
      have c1 := canL_ints r
      have c2 := depL_ints r
      cases hre : r.isEmpty with
      | false =>
        have c3 : (r.map PyData.int).isEmpty = false := by cases r <;> first | cases hre; done | rfl
        refine ⟨[.fz scr, .ow f, s2, .fz (.int m), .fz (.list (rows0.map tI)), s5, s6, s7, s8, s9, s10, s11, s12, s13, s14, .fz (tI r), s16], true, [.fz scr, .ow f, s2, .fz (.int m), .fz (.list (rows0.map tI)), s5, s6, s7, s8, s9, s10, s11, s12, s13, s14, .fz (tI r), s16], by simp [opd, twoD, oneD, settle, look, slotD, alias1, aliasL, lookL, asInt, asBool, fits, sizeLine, binV, cmpV, truthD, slV, biV, isTy, runF, startE, argsFit, lentBack, handBack, store_if, storeN_if, storeV, change, isOwn, io_fz, io_un, io_ow, io_io, ixL, augI, augV, callV, handOver, lentAt, shownAt, putBack, Res.need, slot, immV, isNoneD, negV, SeqAt.shaped, ev_ii, ev_bb, ev_ss, ev_tt, ev_ll, PyData.eqvAll, PyData.canLay0, PyData.canLayAll0, PyData.depth, PyData.depthAll, storeTg], by simp [opd, twoD, oneD, settle, look, slotD, alias1, aliasL, lookL, asInt, asBool, fits, sizeLine, binV, cmpV, truthD, slV, biV, isTy, runF, startE, argsFit, lentBack, handBack, store_if, storeN_if, storeV, change, isOwn, io_fz, io_un, io_ow, io_io, ixL, augI, augV, callV, handOver, lentAt, shownAt, putBack, Res.need, slot, immV, isNoneD, negV, SeqAt.shaped, ev_ii, ev_bb, ev_ss, ev_tt, ev_ll, PyData.eqvAll, PyData.canLay0, PyData.canLayAll0, PyData.depth, PyData.depthAll], fun _ => ⟨.d (tI r), [.fz scr, .ow f, s2, .fz (.int m), .fz (.list (rows0.map tI)), s5, s6, s7, s8, s9, s10, s11, s12, s13, s14, .fz (tI r), s16], tI r, [.fz scr, .ow f, s2, .fz (.int m), .fz (.list (rows0.map tI)), s5, s6, s7, s8, s9, s10, s11, s12, s13, s14, .fz (tI r), s16], by simp [opd, twoD, oneD, settle, look, slotD, alias1, aliasL, lookL, asInt, asBool, fits, sizeLine, binV, cmpV, truthD, slV, biV, isTy, runF, startE, argsFit, lentBack, handBack, store_if, storeN_if, storeV, change, isOwn, io_fz, io_un, io_ow, io_io, ixL, augI, augV, callV, handOver, lentAt, shownAt, putBack, Res.need, slot, immV, isNoneD, negV, SeqAt.shaped, ev_ii, ev_bb, ev_ss, ev_tt, ev_ll, PyData.eqvAll, PyData.canLay0, PyData.canLayAll0, PyData.depth, PyData.depthAll, c1, c2, eqvAll_nil, c3], by simp [opd, twoD, oneD, settle, look, slotD, alias1, aliasL, lookL, asInt, asBool, fits, sizeLine, binV, cmpV, truthD, slV, biV, isTy, runF, startE, argsFit, lentBack, handBack, store_if, storeN_if, storeV, change, isOwn, io_fz, io_un, io_ow, io_io, ixL, augI, augV, callV, handOver, lentAt, shownAt, putBack, Res.need, slot, immV, isNoneD, negV, SeqAt.shaped, ev_ii, ev_bb, ev_ss, ev_tt, ev_ll, PyData.eqvAll, PyData.canLay0, PyData.canLayAll0, PyData.depth, PyData.depthAll], f, rows ++ [r], by simp [opd, twoD, oneD, settle, look, slotD, alias1, aliasL, lookL, asInt, asBool, fits, sizeLine, binV, cmpV, truthD, slV, biV, isTy, runF, startE, argsFit, lentBack, handBack, store_if, storeN_if, storeV, change, isOwn, io_fz, io_un, io_ow, io_io, ixL, augI, augV, callV, handOver, lentAt, shownAt, putBack, Res.need, slot, immV, isNoneD, negV, SeqAt.shaped, ev_ii, ev_bb, ev_ss, ev_tt, ev_ll, PyData.eqvAll, PyData.canLay0, PyData.canLayAll0, PyData.depth, PyData.depthAll, wipeE], hf.weak (by omega), by simp [opd, twoD, oneD, settle, look, slotD, alias1, aliasL, lookL, asInt, asBool, fits, sizeLine, binV, cmpV, truthD, slV, biV, isTy, runF, startE, argsFit, lentBack, handBack, store_if, storeN_if, storeV, change, isOwn, io_fz, io_un, io_ow, io_io, ixL, augI, augV, callV, handOver, lentAt, shownAt, putBack, Res.need, slot, immV, isNoneD, negV, SeqAt.shaped, ev_ii, ev_bb, ev_ss, ev_tt, ev_ll, PyData.eqvAll, PyData.canLay0, PyData.canLayAll0, PyData.depth, PyData.depthAll], ?_, by simp [opd, twoD, oneD, settle, look, slotD, alias1, aliasL, lookL, asInt, asBool, fits, sizeLine, binV, cmpV, truthD, slV, biV, isTy, runF, startE, argsFit, lentBack, handBack, store_if, storeN_if, storeV, change, isOwn, io_fz, io_un, io_ow, io_io, ixL, augI, augV, callV, handOver, lentAt, shownAt, putBack, Res.need, slot, immV, isNoneD, negV, SeqAt.shaped, ev_ii, ev_bb, ev_ss, ev_tt, ev_ll, PyData.eqvAll, PyData.canLay0, PyData.canLayAll0, PyData.depth, PyData.depthAll, p2]⟩, fun h => by cases h⟩
        intro q hq
        rcases List.mem_append.mp hq with hq | hq
        · exact p1 q hq
        · simp [opd, twoD, oneD, settle, look, slotD, alias1, aliasL, lookL, asInt, asBool, fits, sizeLine, binV, cmpV, truthD, slV, biV, isTy, runF, startE, argsFit, lentBack, handBack, store_if, storeN_if, storeV, change, isOwn, io_fz, io_un, io_ow, io_io, ixL, augI, augV, callV, handOver, lentAt, shownAt, putBack, Res.need, slot, immV, isNoneD, negV, SeqAt.shaped, ev_ii, ev_bb, ev_ss, ev_tt, ev_ll, PyData.eqvAll, PyData.canLay0, PyData.canLayAll0, PyData.depth, PyData.depthAll] at hq; subst hq; exact ⟨hrm, hre⟩
      | true =>
        obtain ⟨d, f', e, d1, hf'⟩ := c_drawn 10 (b := b + (10 - (0 + j + 1))) (f := f) m (hf.weak (by omega)) (by omega) (by omega)
        have hr0 : r = [] := List.isEmpty_iff.mp hre
        subst hr0
        simp only [Nat.reduceAdd] at e
        refine ⟨[.fz scr, .ow f, s2, .fz (.int m), .fz (.list (rows0.map tI)), s5, s6, s7, s8, s9, s10, s11, s12, s13, s14, .fz (tI []), s16], true, [.fz scr, .ow f, s2, .fz (.int m), .fz (.list (rows0.map tI)), s5, s6, s7, s8, s9, s10, s11, s12, s13, s14, .fz (tI []), s16], by simp [opd, twoD, oneD, settle, look, slotD, alias1, aliasL, lookL, asInt, asBool, fits, sizeLine, binV, cmpV, truthD, slV, biV, isTy, runF, startE, argsFit, lentBack, handBack, store_if, storeN_if, storeV, change, isOwn, io_fz, io_un, io_ow, io_io, ixL, augI, augV, callV, handOver, lentAt, shownAt, putBack, Res.need, slot, immV, isNoneD, negV, SeqAt.shaped, ev_ii, ev_bb, ev_ss, ev_tt, ev_ll, PyData.eqvAll, PyData.canLay0, PyData.canLayAll0, PyData.depth, PyData.depthAll, storeTg], by simp [opd, twoD, oneD, settle, look, slotD, alias1, aliasL, lookL, asInt, asBool, fits, sizeLine, binV, cmpV, truthD, slV, biV, isTy, runF, startE, argsFit, lentBack, handBack, store_if, storeN_if, storeV, change, isOwn, io_fz, io_un, io_ow, io_io, ixL, augI, augV, callV, handOver, lentAt, shownAt, putBack, Res.need, slot, immV, isNoneD, negV, SeqAt.shaped, ev_ii, ev_bb, ev_ss, ev_tt, ev_ll, PyData.eqvAll, PyData.canLay0, PyData.canLayAll0, PyData.depth, PyData.depthAll], fun _ => ⟨.d (tI [(d : Int)]), [.fz scr, .ow f', s2, .fz (.int m), .fz (.list (rows0.map tI)), s5, s6, s7, s8, s9, s10, s11, s12, s13, s14, .fz (tI []), s16], tI [(d : Int)], [.fz scr, .ow f', s2, .fz (.int m), .fz (.list (rows0.map tI)), s5, s6, s7, s8, s9, s10, s11, s12, s13, s14, .fz (tI []), s16], by simp [opd, twoD, oneD, settle, look, slotD, alias1, aliasL, lookL, asInt, asBool, fits, sizeLine, binV, cmpV, truthD, slV, biV, isTy, runF, startE, argsFit, lentBack, handBack, store_if, storeN_if, storeV, change, isOwn, io_fz, io_un, io_ow, io_io, ixL, augI, augV, callV, handOver, lentAt, shownAt, putBack, Res.need, slot, immV, isNoneD, negV, SeqAt.shaped, ev_ii, ev_bb, ev_ss, ev_tt, ev_ll, PyData.eqvAll, PyData.canLay0, PyData.canLayAll0, PyData.depth, PyData.depthAll, l_drawn, e], by simp [opd, twoD, oneD, settle, look, slotD, alias1, aliasL, lookL, asInt, asBool, fits, sizeLine, binV, cmpV, truthD, slV, biV, isTy, runF, startE, argsFit, lentBack, handBack, store_if, storeN_if, storeV, change, isOwn, io_fz, io_un, io_ow, io_io, ixL, augI, augV, callV, handOver, lentAt, shownAt, putBack, Res.need, slot, immV, isNoneD, negV, SeqAt.shaped, ev_ii, ev_bb, ev_ss, ev_tt, ev_ll, PyData.eqvAll, PyData.canLay0, PyData.canLayAll0, PyData.depth, PyData.depthAll], f', rows ++ [[(d : Int)]], by simp [opd, twoD, oneD, settle, look, slotD, alias1, aliasL, lookL, asInt, asBool, fits, sizeLine, binV, cmpV, truthD, slV, biV, isTy, runF, startE, argsFit, lentBack, handBack, store_if, storeN_if, storeV, change, isOwn, io_fz, io_un, io_ow, io_io, ixL, augI, augV, callV, handOver, lentAt, shownAt, putBack, Res.need, slot, immV, isNoneD, negV, SeqAt.shaped, ev_ii, ev_bb, ev_ss, ev_tt, ev_ll, PyData.eqvAll, PyData.canLay0, PyData.canLayAll0, PyData.depth, PyData.depthAll, wipeE], hf', by simp [opd, twoD, oneD, settle, look, slotD, alias1, aliasL, lookL, asInt, asBool, fits, sizeLine, binV, cmpV, truthD, slV, biV, isTy, runF, startE, argsFit, lentBack, handBack, store_if, storeN_if, storeV, change, isOwn, io_fz, io_un, io_ow, io_io, ixL, augI, augV, callV, handOver, lentAt, shownAt, putBack, Res.need, slot, immV, isNoneD, negV, SeqAt.shaped, ev_ii, ev_bb, ev_ss, ev_tt, ev_ll, PyData.eqvAll, PyData.canLay0, PyData.canLayAll0, PyData.depth, PyData.depthAll], ?_, by simp [opd, twoD, oneD, settle, look, slotD, alias1, aliasL, lookL, asInt, asBool, fits, sizeLine, binV, cmpV, truthD, slV, biV, isTy, runF, startE, argsFit, lentBack, handBack, store_if, storeN_if, storeV, change, isOwn, io_fz, io_un, io_ow, io_io, ixL, augI, augV, callV, handOver, lentAt, shownAt, putBack, Res.need, slot, immV, isNoneD, negV, SeqAt.shaped, ev_ii, ev_bb, ev_ss, ev_tt, ev_ll, PyData.eqvAll, PyData.canLay0, PyData.canLayAll0, PyData.depth, PyData.depthAll, p2]⟩, fun h => by cases h⟩
        intro q hq
        rcases List.mem_append.mp hq with hq | hq
        · exact p1 q hq
        · simp [opd, twoD, oneD, settle, look, slotD, alias1, aliasL, lookL, asInt, asBool, fits, sizeLine, binV, cmpV, truthD, slV, biV, isTy, runF, startE, argsFit, lentBack, handBack, store_if, storeN_if, storeV, change, isOwn, io_fz, io_un, io_ow, io_io, ixL, augI, augV, callV, handOver, lentAt, shownAt, putBack, Res.need, slot, immV, isNoneD, negV, SeqAt.shaped, ev_ii, ev_bb, ev_ss, ev_tt, ev_ll, PyData.eqvAll, PyData.canLay0, PyData.canLayAll0, PyData.depth, PyData.depthAll] at hq
          subst hq
          exact ⟨⟨⟨List.pairwise_singleton _ _, fun i hi => by simp [opd, twoD, oneD, settle, look, slotD, alias1, aliasL, lookL, asInt, asBool, fits, sizeLine, binV, cmpV, truthD, slV, biV, isTy, runF, startE, argsFit, lentBack, handBack, store_if, storeN_if, storeV, change, isOwn, io_fz, io_un, io_ow, io_io, ixL, augI, augV, callV, handOver, lentAt, shownAt, putBack, Res.need, slot, immV, isNoneD, negV, SeqAt.shaped, ev_ii, ev_bb, ev_ss, ev_tt, ev_ll, PyData.eqvAll, PyData.canLay0, PyData.canLayAll0, PyData.depth, PyData.depthAll] at hi; omega, by simp [opd, twoD, oneD, settle, look, slotD, alias1, aliasL, lookL, asInt, asBool, fits, sizeLine, binV, cmpV, truthD, slV, biV, isTy, runF, startE, argsFit, lentBack, handBack, store_if, storeN_if, storeV, change, isOwn, io_fz, io_un, io_ow, io_io, ixL, augI, augV, callV, handOver, lentAt, shownAt, putBack, Res.need, slot, immV, isNoneD, negV, SeqAt.shaped, ev_ii, ev_bb, ev_ss, ev_tt, ev_ll, PyData.eqvAll, PyData.canLay0, PyData.canLayAll0, PyData.depth, PyData.depthAll]⟩, by simp [opd, twoD, oneD, settle, look, slotD, alias1, aliasL, lookL, asInt, asBool, fits, sizeLine, binV, cmpV, truthD, slV, biV, isTy, runF, startE, argsFit, lentBack, handBack, store_if, storeN_if, storeV, change, isOwn, io_fz, io_un, io_ow, io_io, ixL, augI, augV, callV, handOver, lentAt, shownAt, putBack, Res.need, slot, immV, isNoneD, negV, SeqAt.shaped, ev_ii, ev_bb, ev_ss, ev_tt, ev_ll, PyData.eqvAll, PyData.canLay0, PyData.canLayAll0, PyData.depth, PyData.depthAll]⟩, rfl⟩) ⟨f, [], rfl, hf, rfl, by simp [opd, twoD, oneD, settle, look, slotD, alias1, aliasL, lookL, asInt, asBool, fits, sizeLine, binV, cmpV, truthD, slV, biV, isTy, runF, startE, argsFit, lentBack, handBack, store_if, storeN_if, storeV, change, isOwn, io_fz, io_un, io_ow, io_io, ixL, augI, augV, callV, handOver, lentAt, shownAt, putBack, Res.need, slot, immV, isNoneD, negV, SeqAt.shaped, ev_ii, ev_bb, ev_ss, ev_tt, ev_ll, PyData.eqvAll, PyData.canLay0, PyData.canLayAll0, PyData.depth, PyData.depthAll], rfl⟩
  rw [List.length_map] at p2
  have hS : evSrc C Lo (.seq (.nm 4)) [.fz scr, .ow f, s2, .fz (.int m), .fz (.list (rows0.map tI)), s5, s6, s7, s8, s9, s10, s11, s12, s13, s14, s15, s16] = .ok (rows0.map tI, [.fz scr, .ow f, s2, .fz (.int m), .fz (.list (rows0.map tI)), s5, s6, s7, s8, s9, s10, s11, s12, s13, s14, s15, s16]) := by simp [opd, twoD, oneD, settle, look, slotD, alias1, aliasL, lookL, asInt, asBool, fits, sizeLine, binV, cmpV, truthD, slV, biV, isTy, runF, startE, argsFit, lentBack, handBack, store_if, storeN_if, storeV, change, isOwn, io_fz, io_un, io_ow, io_io, ixL, augI, augV, callV, handOver, lentAt, shownAt, putBack, Res.need, slot, immV, isNoneD, negV, SeqAt.shaped, ev_ii, ev_bb, ev_ss, ev_tt, ev_ll, PyData.eqvAll, PyData.canLay0, PyData.canLayAll0, PyData.depth, PyData.depthAll, seqOf]
  have hc := comp_run (own := [15]) hS e2
  refine ⟨rows, f2, ?_, ⟨hm1, hm, fun r hr => (p1 r hr).1.1, fun r hr => (p1 r hr).1.2, ?_, by omega⟩, by omega, hf2.weak (by omega)⟩
  · have e0 : nthS lawBody 2 = .asg 5 false (.tup (.cons (.nm 3) (.cons (.bi .tuple (.cons (.comp (.ife (.val (.cmp .NotEq (.nm 15) (.tup .nil))) (.nm 15) (.tup (.cons (.call "_law_drawn" (.cons (.nm 1) (.cons (.nm 3) .nil))) .nil))) (.nm 15) (.seq (.nm 4)) [15]) .nil)) .nil))) := rfl
    rw [e0]
    simp [opd, twoD, oneD, settle, look, slotD, alias1, aliasL, lookL, asInt, asBool, fits, sizeLine, binV, cmpV, truthD, slV, biV, isTy, runF, startE, argsFit, lentBack, handBack, store_if, storeN_if, storeV, change, isOwn, io_fz, io_un, io_ow, io_io, ixL, augI, augV, callV, handOver, lentAt, shownAt, putBack, Res.need, slot, immV, isNoneD, negV, SeqAt.shaped, ev_ii, ev_bb, ev_ss, ev_tt, ev_ll, PyData.eqvAll, PyData.canLay0, PyData.canLayAll0, PyData.depth, PyData.depthAll, -x_E_comp, hc, biV, restore, h5, board, tR]
  · rw [List.any_eq_false]
    intro r hr
    rw [(p1 r hr).2]
    simp [opd, twoD, oneD, settle, look, slotD, alias1, aliasL, lookL, asInt, asBool, fits, sizeLine, binV, cmpV, truthD, slV, biV, isTy, runF, startE, argsFit, lentBack, handBack, store_if, storeN_if, storeV, change, isOwn, io_fz, io_un, io_ow, io_io, ixL, augI, augV, callV, handOver, lentAt, shownAt, putBack, Res.need, slot, immV, isNoneD, negV, SeqAt.shaped, ev_ii, ev_bb, ev_ss, ev_tt, ev_ll, PyData.eqvAll, PyData.canLay0, PyData.canLayAll0, PyData.depth, PyData.depthAll]
theorem w_3 {rows0 : List (List Int)} (hm : m ≤ 6) (hl : rows0.length ≤ 6) (h6 : isIo s6 = false) (h7 : isIo s7 = false) : evS C Lo (nthS lawBody 3) [.fz scr, .ow f, s2, .fz (.int m), .fz (.list (rows0.map tI)), s5, s6, s7, s8, s9, s10, s11, s12, s13, s14, s15, s16] = .ok (.nx [.fz scr, .ow f, s2, .fz (.int m), .fz (.list (rows0.map tI)), s5, .fz (.list ((lotsZ m).map tI)), .fz (.list ((lotsZ rows0.length).map tI)), s8, s9, s10, s11, s12, s13, s14, s15, s16]) := by
  have e1 := c_lots 10 (m := m) (by omega)
  have e2 := c_lots 10 (m := rows0.length) (by omega)
  simp only [Nat.reduceAdd] at e1 e2
  simp [opd, twoD, oneD, settle, look, slotD, alias1, aliasL, lookL, asInt, asBool, fits, sizeLine, binV, cmpV, truthD, slV, biV, isTy, runF, startE, argsFit, lentBack, handBack, store_if, storeN_if, storeV, change, isOwn, io_fz, io_un, io_ow, io_io, ixL, augI, augV, callV, handOver, lentAt, shownAt, putBack, Res.need, slot, immV, isNoneD, negV, SeqAt.shaped, ev_ii, ev_bb, ev_ss, ev_tt, ev_ll, PyData.eqvAll, PyData.canLay0, PyData.canLayAll0, PyData.depth, PyData.depthAll, nthS, lawBody, f_law, l_lots, e1, biV, e2, storeTg, storeAll, h6, h7]
theorem w_4 (hT : Tab m rows) (h8 : isIo s8 = false) : evS C Lo (nthS lawBody 4) [.fz scr, .ow f, s2, s3, s4, .fz (board m rows), .fz (.list ((lotsZ m).map tI)), s7, s8, s9, s10, s11, s12, s13, s14, s15, s16] = .ok (.nx [.fz scr, .ow f, s2, s3, s4, .fz (board m rows), .fz (.list ((lotsZ m).map tI)), s7, .fz (.int (fewest m rows)), s9, s10, s11, s12, s13, s14, s15, s16]) := by
  have hTn := turns_filterG (tg := .nm 10) (own := [10]) (ρ := [.fz scr, .ow f, s2, s3, s4, .fz (board m rows), .fz (.list ((lotsZ m).map tI)), s7, s8, s9, .un, s11, s12, s13, s14, s15, s16]) (test := cT C Lo (.val (.call "_law_meets" (.cons (.nm 5) (.cons (.nm 10) .nil))))) (elt := cE C Lo (.bi .len (.cons (.nm 10) .nil)))
    (ys := lotsZ m) (acc := []) tI (fun l => meetsB rows l) (fun l => .int (l.length : Int)) fun l _ => by
      have e := c_meets 10 (m := m) (rows := rows) l
      simp only [Nat.reduceAdd] at e
      exact ⟨[.fz scr, .ow f, s2, s3, s4, .fz (board m rows), .fz (.list ((lotsZ m).map tI)), s7, s8, s9, .fz (tI l), s11, s12, s13, s14, s15, s16], by simp [opd, twoD, oneD, settle, look, slotD, alias1, aliasL, lookL, asInt, asBool, fits, sizeLine, binV, cmpV, truthD, slV, biV, isTy, runF, startE, argsFit, lentBack, handBack, store_if, storeN_if, storeV, change, isOwn, io_fz, io_un, io_ow, io_io, ixL, augI, augV, callV, handOver, lentAt, shownAt, putBack, Res.need, slot, immV, isNoneD, negV, SeqAt.shaped, ev_ii, ev_bb, ev_ss, ev_tt, ev_ll, PyData.eqvAll, PyData.canLay0, PyData.canLayAll0, PyData.depth, PyData.depthAll, storeTg], by simp [opd, twoD, oneD, settle, look, slotD, alias1, aliasL, lookL, asInt, asBool, fits, sizeLine, binV, cmpV, truthD, slV, biV, isTy, runF, startE, argsFit, lentBack, handBack, store_if, storeN_if, storeV, change, isOwn, io_fz, io_un, io_ow, io_io, ixL, augI, augV, callV, handOver, lentAt, shownAt, putBack, Res.need, slot, immV, isNoneD, negV, SeqAt.shaped, ev_ii, ev_bb, ev_ss, ev_tt, ev_ll, PyData.eqvAll, PyData.canLay0, PyData.canLayAll0, PyData.depth, PyData.depthAll, l_meets, e], fun _ => by simp [opd, twoD, oneD, settle, look, slotD, alias1, aliasL, lookL, asInt, asBool, fits, sizeLine, binV, cmpV, truthD, slV, biV, isTy, runF, startE, argsFit, lentBack, handBack, store_if, storeN_if, storeV, change, isOwn, io_fz, io_un, io_ow, io_io, ixL, augI, augV, callV, handOver, lentAt, shownAt, putBack, Res.need, slot, immV, isNoneD, negV, SeqAt.shaped, ev_ii, ev_bb, ev_ss, ev_tt, ev_ll, PyData.eqvAll, PyData.canLay0, PyData.canLayAll0, PyData.depth, PyData.depthAll, biV], by simp [opd, twoD, oneD, settle, look, slotD, alias1, aliasL, lookL, asInt, asBool, fits, sizeLine, binV, cmpV, truthD, slV, biV, isTy, runF, startE, argsFit, lentBack, handBack, store_if, storeN_if, storeV, change, isOwn, io_fz, io_un, io_ow, io_io, ixL, augI, augV, callV, handOver, lentAt, shownAt, putBack, Res.need, slot, immV, isNoneD, negV, SeqAt.shaped, ev_ii, ev_bb, ev_ss, ev_tt, ev_ll, PyData.eqvAll, PyData.canLay0, PyData.canLayAll0, PyData.depth, PyData.depthAll, wipeE]⟩
  rw [List.nil_append] at hTn
  have hS : evSrc C Lo (.seq (.nm 6)) [.fz scr, .ow f, s2, s3, s4, .fz (board m rows), .fz (.list ((lotsZ m).map tI)), s7, s8, s9, s10, s11, s12, s13, s14, s15, s16] = .ok ((lotsZ m).map tI, [.fz scr, .ow f, s2, s3, s4, .fz (board m rows), .fz (.list ((lotsZ m).map tI)), s7, s8, s9, s10, s11, s12, s13, s14, s15, s16]) := by simp [opd, twoD, oneD, settle, look, slotD, alias1, aliasL, lookL, asInt, asBool, fits, sizeLine, binV, cmpV, truthD, slV, biV, isTy, runF, startE, argsFit, lentBack, handBack, store_if, storeN_if, storeV, change, isOwn, io_fz, io_un, io_ow, io_io, ixL, augI, augV, callV, handOver, lentAt, shownAt, putBack, Res.need, slot, immV, isNoneD, negV, SeqAt.shaped, ev_ii, ev_bb, ev_ss, ev_tt, ev_ll, PyData.eqvAll, PyData.canLay0, PyData.canLayAll0, PyData.depth, PyData.depthAll, seqOf]
  have hc := compif_run (own := [10]) hS hTn
  obtain ⟨n, ns, q1, q2⟩ := hT.least
  have q3 : ((lotsZ m).filter fun l => meetsB rows l).map (fun l => PyData.int (l.length : Int)) = (n :: ns).map PyData.int := by
    rw [← q1, List.map_map]
    rfl
  rw [q3] at hc
  have e0 : nthS lawBody 4 = .asg 8 false (.bi .min (.cons (.compif (.bi .len (.cons (.nm 10) .nil)) (.nm 10) (.seq (.nm 6)) (.val (.call "_law_meets" (.cons (.nm 5) (.cons (.nm 10) .nil)))) [10]) .nil)) := rfl
  have hai := asInts_ints (n :: ns)
  generalize (n :: ns).map PyData.int = W at hc hai
  rw [e0]
  simp [opd, twoD, oneD, settle, look, slotD, alias1, aliasL, lookL, asInt, asBool, fits, sizeLine, binV, cmpV, truthD, slV, biV, isTy, runF, startE, argsFit, lentBack, handBack, store_if, storeN_if, storeV, change, isOwn, io_fz, io_un, io_ow, io_io, ixL, augI, augV, callV, handOver, lentAt, shownAt, putBack, Res.need, slot, immV, isNoneD, negV, SeqAt.shaped, ev_ii, ev_bb, ev_ss, ev_tt, ev_ll, PyData.eqvAll, PyData.canLay0, PyData.canLayAll0, PyData.depth, PyData.depthAll, -x_E_compif, hc, restore, hai, q2, h8]
theorem w_5 {q : Nat} (hm : m ≤ 6) (hq : q ≤ 6) (hf : Feed (b + 12) f) (h9 : isIo s9 = false) : ∃ (L : List D) (f' : List D), evS C Lo (nthS lawBody 5) [.fz scr, .ow f, s2, s3, s4, s5, .fz (.list ((lotsZ m).map tI)), .fz (.list ((lotsZ q).map tI)), s8, s9, s10, s11, s12, s13, s14, s15, s16] = .ok (.nx [.fz scr, .ow f', s2, s3, s4, s5, .fz (.list ((lotsZ m).map tI)), .fz (.list ((lotsZ q).map tI)), s8, .ow L, s10, s11, s12, s13, s14, s15, s16]) ∧ (∀ v ∈ L, GoodV v) ∧ L.length ≤ 6 ∧ Feed b f' := by
  obtain ⟨ρ', acc', e2, f2, rfl, hf2, p1, p2⟩ := turns_ok (tg := .nm 14) (own := [14]) (test := tT) (elt := cE C Lo (.tup (.cons (.ix (.nm 6) (.call "_law_drawn" (.cons (.nm 1) (.cons (.bi .len (.cons (.nm 6) .nil)) .nil)))) (.cons (.ix (.nm 7) (.call "_law_drawn" (.cons (.nm 1) (.cons (.bi .len (.cons (.nm 7) .nil)) .nil)))) .nil)))) (xs := (List.range 6).map fun (k : Nat) => .int k) (ρ := [.fz scr, .ow f, s2, s3, s4, s5, .fz (.list ((lotsZ m).map tI)), .fz (.list ((lotsZ q).map tI)), s8, s9, s10, s11, s12, s13, .un, s15, s16]) (acc := [])
    (fun k ρ acc => ∃ (f : List D), ρ = [.fz scr, .ow f, s2, s3, s4, s5, .fz (.list ((lotsZ m).map tI)), .fz (.list ((lotsZ q).map tI)), s8, s9, s10, s11, s12, s13, .un, s15, s16] ∧ Feed (b + (12 - k * 2)) f ∧ (∀ v ∈ acc, GoodV v) ∧ acc.length = k) 0
    (fun j x ρ acc hj hI => by
      obtain ⟨f, rfl, hf, p1, p2⟩ := hI
      obtain ⟨hjm, rfl⟩ := range_at hj
      have pw : ∀ k : Nat, k ≤ 6 → 0 < (lotsZ k).length ∧ (lotsZ k).length ≤ 64 := fun k hk => by
        rw [lotsZ_len]
        have h1 : 2 ^ k ≤ 2 ^ 6 := Nat.pow_le_pow_right (by omega) hk
        have h2 : 0 < 2 ^ k := Nat.pow_pos (by omega)
        omega
      obtain ⟨d, f1, e1, d1, hf1⟩ := c_drawn 10 (b := b + (12 - (0 + j + 1) * 2) + 1) (f := f) (lotsZ m).length (hf.weak (by omega)) (pw m hm).1 (by have := (pw m hm).2; omega)
      obtain ⟨d', f1', e1', d1', hf1'⟩ := c_drawn 10 (b := b + (12 - (0 + j + 1) * 2)) (f := f1) (lotsZ q).length hf1 (pw q hq).1 (by have := (pw q hq).2; omega)
      simp only [Nat.reduceAdd] at e1 e1'
      have a1 : atI ((lotsZ m).map tI) (d : Int) = some (tI (lotsZ m)[d]) := by
        rw [atI_nat (by simpa using d1), List.getElem?_map, List.getElem?_eq_getElem d1]
        rfl
      have a2 : atI ((lotsZ q).map tI) (d' : Int) = some (tI (lotsZ q)[d']) := by
        rw [atI_nat (by simpa using d1'), List.getElem?_map, List.getElem?_eq_getElem d1']
        rfl
      have g1 := lotsZ_in (List.getElem_mem d1)
      have g2 := lotsZ_in (List.getElem_mem d1')
      generalize (lotsZ m)[d] = la at a1 g1
      generalize (lotsZ q)[d'] = lb at a2 g2
      refine ⟨[.fz scr, .ow f, s2, s3, s4, s5, .fz (.list ((lotsZ m).map tI)), .fz (.list ((lotsZ q).map tI)), s8, s9, s10, s11, s12, s13, .fz (.int j), s15, s16], true, [.fz scr, .ow f, s2, s3, s4, s5, .fz (.list ((lotsZ m).map tI)), .fz (.list ((lotsZ q).map tI)), s8, s9, s10, s11, s12, s13, .fz (.int j), s15, s16], by simp [opd, twoD, oneD, settle, look, slotD, alias1, aliasL, lookL, asInt, asBool, fits, sizeLine, binV, cmpV, truthD, slV, biV, isTy, runF, startE, argsFit, lentBack, handBack, store_if, storeN_if, storeV, change, isOwn, io_fz, io_un, io_ow, io_io, ixL, augI, augV, callV, handOver, lentAt, shownAt, putBack, Res.need, slot, immV, isNoneD, negV, SeqAt.shaped, ev_ii, ev_bb, ev_ss, ev_tt, ev_ll, PyData.eqvAll, PyData.canLay0, PyData.canLayAll0, PyData.depth, PyData.depthAll, storeTg], by simp [opd, twoD, oneD, settle, look, slotD, alias1, aliasL, lookL, asInt, asBool, fits, sizeLine, binV, cmpV, truthD, slV, biV, isTy, runF, startE, argsFit, lentBack, handBack, store_if, storeN_if, storeV, change, isOwn, io_fz, io_un, io_ow, io_io, ixL, augI, augV, callV, handOver, lentAt, shownAt, putBack, Res.need, slot, immV, isNoneD, negV, SeqAt.shaped, ev_ii, ev_bb, ev_ss, ev_tt, ev_ll, PyData.eqvAll, PyData.canLay0, PyData.canLayAll0, PyData.depth, PyData.depthAll], fun _ => ⟨.d (.tuple [tI la, tI lb]), [.fz scr, .ow f1', s2, s3, s4, s5, .fz (.list ((lotsZ m).map tI)), .fz (.list ((lotsZ q).map tI)), s8, s9, s10, s11, s12, s13, .fz (.int j), s15, s16], .tuple [tI la, tI lb], [.fz scr, .ow f1', s2, s3, s4, s5, .fz (.list ((lotsZ m).map tI)), .fz (.list ((lotsZ q).map tI)), s8, s9, s10, s11, s12, s13, .fz (.int j), s15, s16], by simp [opd, twoD, oneD, settle, look, slotD, alias1, aliasL, lookL, asInt, asBool, fits, sizeLine, binV, cmpV, truthD, slV, biV, isTy, runF, startE, argsFit, lentBack, handBack, store_if, storeN_if, storeV, change, isOwn, io_fz, io_un, io_ow, io_io, ixL, augI, augV, callV, handOver, lentAt, shownAt, putBack, Res.need, slot, immV, isNoneD, negV, SeqAt.shaped, ev_ii, ev_bb, ev_ss, ev_tt, ev_ll, PyData.eqvAll, PyData.canLay0, PyData.canLayAll0, PyData.depth, PyData.depthAll, biV, l_drawn, e1, e1', ixV, a1, a2], by simp [opd, twoD, oneD, settle, look, slotD, alias1, aliasL, lookL, asInt, asBool, fits, sizeLine, binV, cmpV, truthD, slV, biV, isTy, runF, startE, argsFit, lentBack, handBack, store_if, storeN_if, storeV, change, isOwn, io_fz, io_un, io_ow, io_io, ixL, augI, augV, callV, handOver, lentAt, shownAt, putBack, Res.need, slot, immV, isNoneD, negV, SeqAt.shaped, ev_ii, ev_bb, ev_ss, ev_tt, ev_ll, PyData.eqvAll, PyData.canLay0, PyData.canLayAll0, PyData.depth, PyData.depthAll], f1', by simp [opd, twoD, oneD, settle, look, slotD, alias1, aliasL, lookL, asInt, asBool, fits, sizeLine, binV, cmpV, truthD, slV, biV, isTy, runF, startE, argsFit, lentBack, handBack, store_if, storeN_if, storeV, change, isOwn, io_fz, io_un, io_ow, io_io, ixL, augI, augV, callV, handOver, lentAt, shownAt, putBack, Res.need, slot, immV, isNoneD, negV, SeqAt.shaped, ev_ii, ev_bb, ev_ss, ev_tt, ev_ll, PyData.eqvAll, PyData.canLay0, PyData.canLayAll0, PyData.depth, PyData.depthAll, wipeE], hf1', ?_, by simp [opd, twoD, oneD, settle, look, slotD, alias1, aliasL, lookL, asInt, asBool, fits, sizeLine, binV, cmpV, truthD, slV, biV, isTy, runF, startE, argsFit, lentBack, handBack, store_if, storeN_if, storeV, change, isOwn, io_fz, io_un, io_ow, io_io, ixL, augI, augV, callV, handOver, lentAt, shownAt, putBack, Res.need, slot, immV, isNoneD, negV, SeqAt.shaped, ev_ii, ev_bb, ev_ss, ev_tt, ev_ll, PyData.eqvAll, PyData.canLay0, PyData.canLayAll0, PyData.depth, PyData.depthAll, p2]⟩, fun h => by cases h⟩
      intro v hv
      rcases List.mem_append.mp hv with hv | hv
      · exact p1 v hv
      · simp [opd, twoD, oneD, settle, look, slotD, alias1, aliasL, lookL, asInt, asBool, fits, sizeLine, binV, cmpV, truthD, slV, biV, isTy, runF, startE, argsFit, lentBack, handBack, store_if, storeN_if, storeV, change, isOwn, io_fz, io_un, io_ow, io_io, ixL, augI, augV, callV, handOver, lentAt, shownAt, putBack, Res.need, slot, immV, isNoneD, negV, SeqAt.shaped, ev_ii, ev_bb, ev_ss, ev_tt, ev_ll, PyData.eqvAll, PyData.canLay0, PyData.canLayAll0, PyData.depth, PyData.depthAll] at hv
        subst hv
        exact ⟨la, lb, rfl, by omega, by omega⟩) ⟨f, rfl, hf, by simp [opd, twoD, oneD, settle, look, slotD, alias1, aliasL, lookL, asInt, asBool, fits, sizeLine, binV, cmpV, truthD, slV, biV, isTy, runF, startE, argsFit, lentBack, handBack, store_if, storeN_if, storeV, change, isOwn, io_fz, io_un, io_ow, io_io, ixL, augI, augV, callV, handOver, lentAt, shownAt, putBack, Res.need, slot, immV, isNoneD, negV, SeqAt.shaped, ev_ii, ev_bb, ev_ss, ev_tt, ev_ll, PyData.eqvAll, PyData.canLay0, PyData.canLayAll0, PyData.depth, PyData.depthAll], rfl⟩
  rw [List.length_map, List.length_range] at p2
  refine ⟨acc', f2, ?_, p1, by omega, hf2.weak (by omega)⟩
  have hS := rng1_at (call := C) (lo := Lo) (a := .c (.int (6))) (ρ := [.fz scr, .ow f, s2, s3, s4, s5, .fz (.list ((lotsZ m).map tI)), .fz (.list ((lotsZ q).map tI)), s8, s9, s10, s11, s12, s13, s14, s15, s16]) (m := 6) rfl (by decide)
  have hc := comp_run (own := [14]) hS e2
  have e0 : nthS lawBody 5 = .asg 9 true (.comp (.tup (.cons (.ix (.nm 6) (.call "_law_drawn" (.cons (.nm 1) (.cons (.bi .len (.cons (.nm 6) .nil)) .nil)))) (.cons (.ix (.nm 7) (.call "_law_drawn" (.cons (.nm 1) (.cons (.bi .len (.cons (.nm 7) .nil)) .nil)))) .nil))) (.nm 14) (.rng1 (.c (.int (6)))) [14]) := rfl
  rw [e0, x_S_asg, hc]
  simp [opd, twoD, oneD, settle, look, slotD, alias1, aliasL, lookL, asInt, asBool, fits, sizeLine, binV, cmpV, truthD, slV, biV, isTy, runF, startE, argsFit, lentBack, handBack, store_if, storeN_if, storeV, change, isOwn, io_fz, io_un, io_ow, io_io, ixL, augI, augV, callV, handOver, lentAt, shownAt, putBack, Res.need, slot, immV, isNoneD, negV, SeqAt.shaped, ev_ii, ev_bb, ev_ss, ev_tt, ev_ll, PyData.eqvAll, PyData.canLay0, PyData.canLayAll0, PyData.depth, PyData.depthAll, restore, h9]
end
end PX
namespace PX
open PySem PySem.Spec PyProof.Rows L2
section
variable {scr : D} {f : List D} {b m q : Nat} {rows : List (List Int)} {L : List D} {kinds : List (List Int)} {s2 s3 s4 s5 s6 s7 s8 s9 s10 s11 s12 s13 s14 s15 s16 : Slot}
theorem w_6 (hm : m ≤ 6) (hq : q ≤ 6) (hL : ∀ v ∈ L, GoodV v) (hl : L.length ≤ 6) : ∃ L', evS C Lo (nthS lawBody 6) [.fz scr, .ow f, s2, s3, s4, s5, .fz (.list ((lotsZ m).map tI)), .fz (.list ((lotsZ q).map tI)), s8, .ow L, s10, s11, s12, s13, s14, s15, s16] = .ok (.nx [.fz scr, .ow f, s2, s3, s4, s5, .fz (.list ((lotsZ m).map tI)), .fz (.list ((lotsZ q).map tI)), s8, .ow L', s10, s11, s12, s13, s14, s15, s16]) ∧ (∀ v ∈ L', GoodV v) ∧ L'.length ≤ 80 := by
  have hT := turns_mapG (tg := .tp [10, 16]) (own := [10, 16]) (ρ := [.fz scr, .ow f, s2, s3, s4, s5, .fz (.list ((lotsZ m).map tI)), .fz (.list ((lotsZ q).map tI)), s8, .ow L, .un, s11, s12, s13, s14, s15, .un]) (elt := cE C Lo (.tup (.cons (.nm 10) (.cons (.nm 16) .nil))))
    (ys := (lotsZ m).zip (lotsZ q)) (acc := []) (fun p => .tuple [tI p.1, tI p.2]) (fun p => .tuple [tI p.1, tI p.2]) fun p _ => ⟨[.fz scr, .ow f, s2, s3, s4, s5, .fz (.list ((lotsZ m).map tI)), .fz (.list ((lotsZ q).map tI)), s8, .ow L, .fz (tI p.1), s11, s12, s13, s14, s15, .fz (tI p.2)], by simp [opd, twoD, oneD, settle, look, slotD, alias1, aliasL, lookL, asInt, asBool, fits, sizeLine, binV, cmpV, truthD, slV, biV, isTy, runF, startE, argsFit, lentBack, handBack, store_if, storeN_if, storeV, change, isOwn, io_fz, io_un, io_ow, io_io, ixL, augI, augV, callV, handOver, lentAt, shownAt, putBack, Res.need, slot, immV, isNoneD, negV, SeqAt.shaped, ev_ii, ev_bb, ev_ss, ev_tt, ev_ll, PyData.eqvAll, PyData.canLay0, PyData.canLayAll0, PyData.depth, PyData.depthAll, storeTg, storeAll], by simp [opd, twoD, oneD, settle, look, slotD, alias1, aliasL, lookL, asInt, asBool, fits, sizeLine, binV, cmpV, truthD, slV, biV, isTy, runF, startE, argsFit, lentBack, handBack, store_if, storeN_if, storeV, change, isOwn, io_fz, io_un, io_ow, io_io, ixL, augI, augV, callV, handOver, lentAt, shownAt, putBack, Res.need, slot, immV, isNoneD, negV, SeqAt.shaped, ev_ii, ev_bb, ev_ss, ev_tt, ev_ll, PyData.eqvAll, PyData.canLay0, PyData.canLayAll0, PyData.depth, PyData.depthAll], by simp [opd, twoD, oneD, settle, look, slotD, alias1, aliasL, lookL, asInt, asBool, fits, sizeLine, binV, cmpV, truthD, slV, biV, isTy, runF, startE, argsFit, lentBack, handBack, store_if, storeN_if, storeV, change, isOwn, io_fz, io_un, io_ow, io_io, ixL, augI, augV, callV, handOver, lentAt, shownAt, putBack, Res.need, slot, immV, isNoneD, negV, SeqAt.shaped, ev_ii, ev_bb, ev_ss, ev_tt, ev_ll, PyData.eqvAll, PyData.canLay0, PyData.canLayAll0, PyData.depth, PyData.depthAll, wipeE]⟩
  rw [List.nil_append] at hT
  have hz : zipD [.list ((lotsZ m).map tI), .list ((lotsZ q).map tI)] = some (((lotsZ m).zip (lotsZ q)).map fun p => .tuple [tI p.1, tI p.2]) := by
    show some ((((lotsZ m).map tI).zip ((lotsZ q).map tI)).map fun p => PyData.tuple [p.1, p.2]) = _
    rw [List.zip_map, List.map_map]
    rfl
  have hS : evSrc C Lo (.zip (.nm 6) (.nm 7)) [.fz scr, .ow f, s2, s3, s4, s5, .fz (.list ((lotsZ m).map tI)), .fz (.list ((lotsZ q).map tI)), s8, .ow L, s10, s11, s12, s13, s14, s15, s16] = .ok (((lotsZ m).zip (lotsZ q)).map fun p => .tuple [tI p.1, tI p.2], [.fz scr, .ow f, s2, s3, s4, s5, .fz (.list ((lotsZ m).map tI)), .fz (.list ((lotsZ q).map tI)), s8, .ow L, s10, s11, s12, s13, s14, s15, s16]) := by
    simp [opd, twoD, oneD, settle, look, slotD, alias1, aliasL, lookL, asInt, asBool, fits, sizeLine, binV, cmpV, truthD, slV, biV, isTy, runF, startE, argsFit, lentBack, handBack, store_if, storeN_if, storeV, change, isOwn, io_fz, io_un, io_ow, io_io, ixL, augI, augV, callV, handOver, lentAt, shownAt, putBack, Res.need, slot, immV, isNoneD, negV, SeqAt.shaped, ev_ii, ev_bb, ev_ss, ev_tt, ev_ll, PyData.eqvAll, PyData.canLay0, PyData.canLayAll0, PyData.depth, PyData.depthAll, hz]
  have hc := comp_run (own := [10, 16]) hS hT
  have hlen : (((lotsZ m).zip (lotsZ q)).map fun p => PyData.tuple [tI p.1, tI p.2]).length ≤ 64 := by
    rw [List.length_map, List.length_zip, lotsZ_len]
    have h1 : 2 ^ m ≤ 2 ^ 6 := Nat.pow_le_pow_right (by omega) hm
    omega
  have hgood : ∀ v ∈ ((lotsZ m).zip (lotsZ q)).map (fun p => PyData.tuple [tI p.1, tI p.2]), GoodV v := fun v hv => by
    obtain ⟨p, hp, rfl⟩ := List.mem_map.mp hv
    have h := List.of_mem_zip (a := p.1) (b := p.2) hp
    have g1 := lotsZ_in h.1
    have g2 := lotsZ_in h.2
    exact ⟨p.1, p.2, rfl, by omega, by omega⟩
  generalize ((lotsZ m).zip (lotsZ q)).map (fun p => PyData.tuple [tI p.1, tI p.2]) = Z at hc hlen hgood
  refine ⟨L ++ Z, ?_, fun v hv => (List.mem_append.mp hv).elim (hL v) (hgood v), by rw [List.length_append]; omega⟩
  have e0 : nthS lawBody 6 = .asg 9 true (.bin .Add (.nm 9) (.comp (.tup (.cons (.nm 10) (.cons (.nm 16) .nil))) (.tp [10, 16]) (.zip (.nm 6) (.nm 7)) [10, 16])) := rfl
  have hfit : L.length + Z.length ≤ 16777216 := by omega
  rw [e0]
  simp [opd, twoD, oneD, settle, look, slotD, alias1, aliasL, lookL, asInt, asBool, fits, sizeLine, binV, cmpV, truthD, slV, biV, isTy, runF, startE, argsFit, lentBack, handBack, store_if, storeN_if, storeV, change, isOwn, io_fz, io_un, io_ow, io_io, ixL, augI, augV, callV, handOver, lentAt, shownAt, putBack, Res.need, slot, immV, isNoneD, negV, SeqAt.shaped, ev_ii, ev_bb, ev_ss, ev_tt, ev_ll, PyData.eqvAll, PyData.canLay0, PyData.canLayAll0, PyData.depth, PyData.depthAll, -x_E_comp, hc, restore, hfit]
theorem w_7 (hq : q ≤ 6) (fw : Int) (h7 : True) : ∃ kinds : List (List Int), evS C Lo (nthS lawBody 7) [.fz scr, .ow f, s2, s3, s4, s5, s6, .fz (.list ((lotsZ q).map tI)), .fz (.int fw), s9, s10, s11, s12, s13, s14, s15, s16] = .ok (.nx [.fz scr, .ow f, s2, s3, s4, s5, s6, .fz (.list (kinds.map tI)), .fz (.int fw), s9, s10, s11, s12, s13, s14, s15, s16]) ∧ (∀ l ∈ kinds, l.length ≤ 6) ∧ kinds.length ≤ 64 := by
  have hT := turns_filterG (tg := .nm 16) (own := [16]) (ρ := [.fz scr, .ow f, s2, s3, s4, s5, s6, .fz (.list ((lotsZ q).map tI)), .fz (.int fw), s9, s10, s11, s12, s13, s14, s15, .un]) (test := cT C Lo (.val (.cmp .Eq (.bi .len (.cons (.nm 16) .nil)) (.nm 8)))) (elt := cE C Lo (.nm 16))
    (ys := lotsZ q) (acc := []) tI (fun l => (l.length : Int) == fw) tI fun l _ => ⟨[.fz scr, .ow f, s2, s3, s4, s5, s6, .fz (.list ((lotsZ q).map tI)), .fz (.int fw), s9, s10, s11, s12, s13, s14, s15, .fz (tI l)], by simp [opd, twoD, oneD, settle, look, slotD, alias1, aliasL, lookL, asInt, asBool, fits, sizeLine, binV, cmpV, truthD, slV, biV, isTy, runF, startE, argsFit, lentBack, handBack, store_if, storeN_if, storeV, change, isOwn, io_fz, io_un, io_ow, io_io, ixL, augI, augV, callV, handOver, lentAt, shownAt, putBack, Res.need, slot, immV, isNoneD, negV, SeqAt.shaped, ev_ii, ev_bb, ev_ss, ev_tt, ev_ll, PyData.eqvAll, PyData.canLay0, PyData.canLayAll0, PyData.depth, PyData.depthAll, storeTg], by simp [opd, twoD, oneD, settle, look, slotD, alias1, aliasL, lookL, asInt, asBool, fits, sizeLine, binV, cmpV, truthD, slV, biV, isTy, runF, startE, argsFit, lentBack, handBack, store_if, storeN_if, storeV, change, isOwn, io_fz, io_un, io_ow, io_io, ixL, augI, augV, callV, handOver, lentAt, shownAt, putBack, Res.need, slot, immV, isNoneD, negV, SeqAt.shaped, ev_ii, ev_bb, ev_ss, ev_tt, ev_ll, PyData.eqvAll, PyData.canLay0, PyData.canLayAll0, PyData.depth, PyData.depthAll, biV], fun _ => by simp [opd, twoD, oneD, settle, look, slotD, alias1, aliasL, lookL, asInt, asBool, fits, sizeLine, binV, cmpV, truthD, slV, biV, isTy, runF, startE, argsFit, lentBack, handBack, store_if, storeN_if, storeV, change, isOwn, io_fz, io_un, io_ow, io_io, ixL, augI, augV, callV, handOver, lentAt, shownAt, putBack, Res.need, slot, immV, isNoneD, negV, SeqAt.shaped, ev_ii, ev_bb, ev_ss, ev_tt, ev_ll, PyData.eqvAll, PyData.canLay0, PyData.canLayAll0, PyData.depth, PyData.depthAll], by simp [opd, twoD, oneD, settle, look, slotD, alias1, aliasL, lookL, asInt, asBool, fits, sizeLine, binV, cmpV, truthD, slV, biV, isTy, runF, startE, argsFit, lentBack, handBack, store_if, storeN_if, storeV, change, isOwn, io_fz, io_un, io_ow, io_io, ixL, augI, augV, callV, handOver, lentAt, shownAt, putBack, Res.need, slot, immV, isNoneD, negV, SeqAt.shaped, ev_ii, ev_bb, ev_ss, ev_tt, ev_ll, PyData.eqvAll, PyData.canLay0, PyData.canLayAll0, PyData.depth, PyData.depthAll, wipeE]⟩
  rw [List.nil_append] at hT
  have hS : evSrc C Lo (.seq (.nm 7)) [.fz scr, .ow f, s2, s3, s4, s5, s6, .fz (.list ((lotsZ q).map tI)), .fz (.int fw), s9, s10, s11, s12, s13, s14, s15, s16] = .ok ((lotsZ q).map tI, [.fz scr, .ow f, s2, s3, s4, s5, s6, .fz (.list ((lotsZ q).map tI)), .fz (.int fw), s9, s10, s11, s12, s13, s14, s15, s16]) := by simp [opd, twoD, oneD, settle, look, slotD, alias1, aliasL, lookL, asInt, asBool, fits, sizeLine, binV, cmpV, truthD, slV, biV, isTy, runF, startE, argsFit, lentBack, handBack, store_if, storeN_if, storeV, change, isOwn, io_fz, io_un, io_ow, io_io, ixL, augI, augV, callV, handOver, lentAt, shownAt, putBack, Res.need, slot, immV, isNoneD, negV, SeqAt.shaped, ev_ii, ev_bb, ev_ss, ev_tt, ev_ll, PyData.eqvAll, PyData.canLay0, PyData.canLayAll0, PyData.depth, PyData.depthAll, seqOf]
  have hc := compif_run (own := [16]) hS hT
  refine ⟨(lotsZ q).filter fun l => (l.length : Int) == fw, ?_, fun l hl => ?_, ?_⟩
  · have e0 : nthS lawBody 7 = .asg 7 false (.compif (.nm 16) (.nm 16) (.seq (.nm 7)) (.val (.cmp .Eq (.bi .len (.cons (.nm 16) .nil)) (.nm 8))) [16]) := rfl
    generalize (lotsZ q).filter (fun l => (l.length : Int) == fw) = W at hc ⊢
    rw [e0, x_S_asg, hc]
    simp [opd, twoD, oneD, settle, look, slotD, alias1, aliasL, lookL, asInt, asBool, fits, sizeLine, binV, cmpV, truthD, slV, biV, isTy, runF, startE, argsFit, lentBack, handBack, store_if, storeN_if, storeV, change, isOwn, io_fz, io_un, io_ow, io_io, ixL, augI, augV, callV, handOver, lentAt, shownAt, putBack, Res.need, slot, immV, isNoneD, negV, SeqAt.shaped, ev_ii, ev_bb, ev_ss, ev_tt, ev_ll, PyData.eqvAll, PyData.canLay0, PyData.canLayAll0, PyData.depth, PyData.depthAll, restore]
  · have := lotsZ_in (List.mem_filter.mp hl).1
    omega
  · have h0 := List.length_filter_le (fun l => (l.length : Int) == fw) (lotsZ q)
    rw [lotsZ_len] at h0
    have h1 : 2 ^ q ≤ 2 ^ 6 := Nat.pow_le_pow_right (by omega) hq
    omega
def lotBody : Ss := match nthS lawBody 8 with
  | .for_ _ _ b => b
  | _ => .nil
theorem lot_turn {lot : List Int} (hT : Tab m rows) (hlot : lot.length ≤ 6) (hk : ∀ l ∈ kinds, l.length ≤ 6) (hkl : kinds.length ≤ 64) (hL : ∀ v ∈ L, GoodV v) (hl : L.length ≤ 10000) : ∃ L', evSs C Lo lotBody [.fz scr, .ow f, s2, s3, s4, .fz (board m rows), s6, .fz (.list (kinds.map tI)), s8, .ow L, .fz (tI lot), s11, s12, s13, s14, s15, s16] = .ok (.nx [.fz scr, .ow f, s2, s3, s4, .fz (board m rows), s6, .fz (.list (kinds.map tI)), s8, .ow L', .fz (tI lot), s11, s12, s13, s14, s15, s16]) ∧ (∀ v ∈ L', GoodV v) ∧ L'.length ≤ L.length + 65 := by
  have hTn := turns_filterG (tg := .nm 16) (own := [16]) (ρ := [.fz scr, .ow f, s2, s3, s4, .fz (board m rows), s6, .fz (.list (kinds.map tI)), s8, .ow L, .fz (tI lot), s11, s12, s13, s14, s15, .un]) (test := cT C Lo (.val (.call "_law_is_pair" (.cons (.nm 5) (.cons (.tup (.cons (.nm 10) (.cons (.nm 16) .nil))) .nil))))) (elt := cE C Lo (.tup (.cons (.nm 10) (.cons (.nm 16) .nil))))
    (ys := kinds) (acc := []) tI (fun k => pairB m rows (.tuple [tI lot, tI k])) (fun k => .tuple [tI lot, tI k]) fun k hkm => by
      have hkl := hk k hkm
      have e := c_is_pair 9 (m := m) (rows := rows) hT.len (v := .tuple [tI lot, tI k]) (okV_two (okSide_ints (by omega)) (okSide_ints (by omega)))
      rw [hT.full, Bool.not_false, Bool.true_and] at e
      simp only [Nat.reduceAdd] at e
      exact ⟨[.fz scr, .ow f, s2, s3, s4, .fz (board m rows), s6, .fz (.list (kinds.map tI)), s8, .ow L, .fz (tI lot), s11, s12, s13, s14, s15, .fz (tI k)], by simp [opd, twoD, oneD, settle, look, slotD, alias1, aliasL, lookL, asInt, asBool, fits, sizeLine, binV, cmpV, truthD, slV, biV, isTy, runF, startE, argsFit, lentBack, handBack, store_if, storeN_if, storeV, change, isOwn, io_fz, io_un, io_ow, io_io, ixL, augI, augV, callV, handOver, lentAt, shownAt, putBack, Res.need, slot, immV, isNoneD, negV, SeqAt.shaped, ev_ii, ev_bb, ev_ss, ev_tt, ev_ll, PyData.eqvAll, PyData.canLay0, PyData.canLayAll0, PyData.depth, PyData.depthAll, storeTg], by simp [opd, twoD, oneD, settle, look, slotD, alias1, aliasL, lookL, asInt, asBool, fits, sizeLine, binV, cmpV, truthD, slV, biV, isTy, runF, startE, argsFit, lentBack, handBack, store_if, storeN_if, storeV, change, isOwn, io_fz, io_un, io_ow, io_io, ixL, augI, augV, callV, handOver, lentAt, shownAt, putBack, Res.need, slot, immV, isNoneD, negV, SeqAt.shaped, ev_ii, ev_bb, ev_ss, ev_tt, ev_ll, PyData.eqvAll, PyData.canLay0, PyData.canLayAll0, PyData.depth, PyData.depthAll, l_is_pair, e], fun _ => by simp [opd, twoD, oneD, settle, look, slotD, alias1, aliasL, lookL, asInt, asBool, fits, sizeLine, binV, cmpV, truthD, slV, biV, isTy, runF, startE, argsFit, lentBack, handBack, store_if, storeN_if, storeV, change, isOwn, io_fz, io_un, io_ow, io_io, ixL, augI, augV, callV, handOver, lentAt, shownAt, putBack, Res.need, slot, immV, isNoneD, negV, SeqAt.shaped, ev_ii, ev_bb, ev_ss, ev_tt, ev_ll, PyData.eqvAll, PyData.canLay0, PyData.canLayAll0, PyData.depth, PyData.depthAll], by simp [opd, twoD, oneD, settle, look, slotD, alias1, aliasL, lookL, asInt, asBool, fits, sizeLine, binV, cmpV, truthD, slV, biV, isTy, runF, startE, argsFit, lentBack, handBack, store_if, storeN_if, storeV, change, isOwn, io_fz, io_un, io_ow, io_io, ixL, augI, augV, callV, handOver, lentAt, shownAt, putBack, Res.need, slot, immV, isNoneD, negV, SeqAt.shaped, ev_ii, ev_bb, ev_ss, ev_tt, ev_ll, PyData.eqvAll, PyData.canLay0, PyData.canLayAll0, PyData.depth, PyData.depthAll, wipeE]⟩
  rw [List.nil_append] at hTn
  have hS : evSrc C Lo (.seq (.nm 7)) [.fz scr, .ow f, s2, s3, s4, .fz (board m rows), s6, .fz (.list (kinds.map tI)), s8, .ow L, .fz (tI lot), s11, s12, s13, s14, s15, s16] = .ok (kinds.map tI, [.fz scr, .ow f, s2, s3, s4, .fz (board m rows), s6, .fz (.list (kinds.map tI)), s8, .ow L, .fz (tI lot), s11, s12, s13, s14, s15, s16]) := by simp [opd, twoD, oneD, settle, look, slotD, alias1, aliasL, lookL, asInt, asBool, fits, sizeLine, binV, cmpV, truthD, slV, biV, isTy, runF, startE, argsFit, lentBack, handBack, store_if, storeN_if, storeV, change, isOwn, io_fz, io_un, io_ow, io_io, ixL, augI, augV, callV, handOver, lentAt, shownAt, putBack, Res.need, slot, immV, isNoneD, negV, SeqAt.shaped, ev_ii, ev_bb, ev_ss, ev_tt, ev_ll, PyData.eqvAll, PyData.canLay0, PyData.canLayAll0, PyData.depth, PyData.depthAll, seqOf]
  have hc := compif_run (own := [16]) hS hTn
  have hres : restore [.fz scr, .ow f, s2, s3, s4, .fz (board m rows), s6, .fz (.list (kinds.map tI)), s8, .ow L, .fz (tI lot), s11, s12, s13, s14, s15, s16] [.fz scr, .ow f, s2, s3, s4, .fz (board m rows), s6, .fz (.list (kinds.map tI)), s8, .ow L, .fz (tI lot), s11, s12, s13, s14, s15, .un] [16] = [.fz scr, .ow f, s2, s3, s4, .fz (board m rows), s6, .fz (.list (kinds.map tI)), s8, .ow L, .fz (tI lot), s11, s12, s13, s14, s15, s16] := by simp [opd, twoD, oneD, settle, look, slotD, alias1, aliasL, lookL, asInt, asBool, fits, sizeLine, binV, cmpV, truthD, slV, biV, isTy, runF, startE, argsFit, lentBack, handBack, store_if, storeN_if, storeV, change, isOwn, io_fz, io_un, io_ow, io_io, ixL, augI, augV, callV, handOver, lentAt, shownAt, putBack, Res.need, slot, immV, isNoneD, negV, SeqAt.shaped, ev_ii, ev_bb, ev_ss, ev_tt, ev_ll, PyData.eqvAll, PyData.canLay0, PyData.canLayAll0, PyData.depth, PyData.depthAll, restore]
  rw [hres] at hc
  obtain ⟨ks, sk, ek⟩ := cut_map (fun k => PyData.tuple [tI lot, tI k]) (kinds.filter fun k => pairB m rows (.tuple [tI lot, tI k])) none (some 1)
  have hks : ks.length ≤ 64 := by
    have h1 := sk.length_le
    have h2 := List.length_filter_le (fun k => pairB m rows (.tuple [tI lot, tI k])) kinds
    omega
  have hgood : ∀ v ∈ ks.map (fun k => PyData.tuple [tI lot, tI k]), GoodV v := fun v hv => by
    obtain ⟨k, hkm, rfl⟩ := List.mem_map.mp hv
    have := hk k (List.mem_filter.mp (sk.subset hkm)).1
    exact ⟨lot, k, rfl, by omega, by omega⟩
  have hZl : (ks.map fun k => PyData.tuple [tI lot, tI k]).length ≤ 64 := by rw [List.length_map]; exact hks
  generalize (kinds.filter fun k => pairB m rows (.tuple [tI lot, tI k])).map (fun k => PyData.tuple [tI lot, tI k]) = W at hc ek
  generalize ks.map (fun k => PyData.tuple [tI lot, tI k]) = Z at ek hgood hZl
  have hfit : L.length + Z.length ≤ 16777216 := by omega
  have b0 : evS C Lo (nthS lotBody 0) [.fz scr, .ow f, s2, s3, s4, .fz (board m rows), s6, .fz (.list (kinds.map tI)), s8, .ow L, .fz (tI lot), s11, s12, s13, s14, s15, s16] = .ok (.nx [.fz scr, .ow f, s2, s3, s4, .fz (board m rows), s6, .fz (.list (kinds.map tI)), s8, .ow (L ++ Z), .fz (tI lot), s11, s12, s13, s14, s15, s16]) := by
    have e0 : nthS lotBody 0 = .asg 9 true (.bin .Add (.nm 9) (.sl01 (.compif (.tup (.cons (.nm 10) (.cons (.nm 16) .nil))) (.nm 16) (.seq (.nm 7)) (.val (.call "_law_is_pair" (.cons (.nm 5) (.cons (.tup (.cons (.nm 10) (.cons (.nm 16) .nil))) .nil)))) [16]) (.c (.int (1))))) := rfl
    rw [e0]
    simp [opd, twoD, oneD, settle, look, slotD, alias1, aliasL, lookL, asInt, asBool, fits, sizeLine, binV, cmpV, truthD, slV, biV, isTy, runF, startE, argsFit, lentBack, handBack, store_if, storeN_if, storeV, change, isOwn, io_fz, io_un, io_ow, io_io, ixL, augI, augV, callV, handOver, lentAt, shownAt, putBack, Res.need, slot, immV, isNoneD, negV, SeqAt.shaped, ev_ii, ev_bb, ev_ss, ev_tt, ev_ll, PyData.eqvAll, PyData.canLay0, PyData.canLayAll0, PyData.depth, PyData.depthAll, -x_E_compif, hc, ek, hfit]
  -- the first of the kinds
  obtain ⟨k0, hk0, ek0⟩ : ∃ k0 : List Int, k0.length ≤ 9 ∧ evE C Lo (.ife (.val (.cmp .NotEq (.nm 7) (.lst .nil))) (.ix (.nm 7) (.c (.int (0)))) (.tup .nil)) [.fz scr, .ow f, s2, s3, s4, .fz (board m rows), s6, .fz (.list (kinds.map tI)), s8, .ow (L ++ Z), .fz (tI lot), s11, s12, s13, s14, s15, s16] = .ok (.d (tI k0), [.fz scr, .ow f, s2, s3, s4, .fz (board m rows), s6, .fz (.list (kinds.map tI)), s8, .ow (L ++ Z), .fz (tI lot), s11, s12, s13, s14, s15, s16]) := by
    obtain ⟨c1, c2⟩ := shape_tIs kinds
    have c2' : PyData.depthAll (kinds.map tI) ≤ 63 := by omega
    cases kinds with
    | nil => exact ⟨[], by simp [opd, twoD, oneD, settle, look, slotD, alias1, aliasL, lookL, asInt, asBool, fits, sizeLine, binV, cmpV, truthD, slV, biV, isTy, runF, startE, argsFit, lentBack, handBack, store_if, storeN_if, storeV, change, isOwn, io_fz, io_un, io_ow, io_io, ixL, augI, augV, callV, handOver, lentAt, shownAt, putBack, Res.need, slot, immV, isNoneD, negV, SeqAt.shaped, ev_ii, ev_bb, ev_ss, ev_tt, ev_ll, PyData.eqvAll, PyData.canLay0, PyData.canLayAll0, PyData.depth, PyData.depthAll], by simp [opd, twoD, oneD, settle, look, slotD, alias1, aliasL, lookL, asInt, asBool, fits, sizeLine, binV, cmpV, truthD, slV, biV, isTy, runF, startE, argsFit, lentBack, handBack, store_if, storeN_if, storeV, change, isOwn, io_fz, io_un, io_ow, io_io, ixL, augI, augV, callV, handOver, lentAt, shownAt, putBack, Res.need, slot, immV, isNoneD, negV, SeqAt.shaped, ev_ii, ev_bb, ev_ss, ev_tt, ev_ll, PyData.eqvAll, PyData.canLay0, PyData.canLayAll0, PyData.depth, PyData.depthAll]⟩
    | cons k kinds =>
      have hk' := hk k List.mem_cons_self
      have e0 : atI (tI k :: kinds.map tI) 0 = some (tI k) := at0
      have c3 : PyData.eqvAll (tI k :: kinds.map tI) [] = false := by rw [eqvAll_nil]; rfl
      rw [List.map_cons] at c1 c2'
      refine ⟨k, by omega, ?_⟩
      rw [List.map_cons]
      generalize hW : tI k :: kinds.map tI = W at e0 c1 c2' c3 ⊢
      simp [opd, twoD, oneD, settle, look, slotD, alias1, aliasL, lookL, asInt, asBool, fits, sizeLine, binV, cmpV, truthD, slV, biV, isTy, runF, startE, argsFit, lentBack, handBack, store_if, storeN_if, storeV, change, isOwn, io_fz, io_un, io_ow, io_io, ixL, augI, augV, callV, handOver, lentAt, shownAt, putBack, Res.need, slot, immV, isNoneD, negV, SeqAt.shaped, ev_ii, ev_bb, ev_ss, ev_tt, ev_ll, PyData.eqvAll, PyData.canLay0, PyData.canLayAll0, PyData.depth, PyData.depthAll, c1, c2', c3, ixV, e0]
  have b1 : evS C Lo (nthS lotBody 1) [.fz scr, .ow f, s2, s3, s4, .fz (board m rows), s6, .fz (.list (kinds.map tI)), s8, .ow (L ++ Z), .fz (tI lot), s11, s12, s13, s14, s15, s16] = .ok (.nx [.fz scr, .ow f, s2, s3, s4, .fz (board m rows), s6, .fz (.list (kinds.map tI)), s8, .ow (L ++ Z ++ [.tuple [tI lot, tI k0]]), .fz (tI lot), s11, s12, s13, s14, s15, s16]) := by
    have e1 : nthS lotBody 1 = .ex (.mut .append 9 (.cons (.tup (.cons (.nm 10) (.cons (.ife (.val (.cmp .NotEq (.nm 7) (.lst .nil))) (.ix (.nm 7) (.c (.int (0)))) (.tup .nil)) .nil))) .nil)) := rfl
    have em := mut_run (call := C) (lo := Lo) (m := .append) (i := 9) (es := .cons (.tup (.cons (.nm 10) (.cons (.ife (.val (.cmp .NotEq (.nm 7) (.lst .nil))) (.ix (.nm 7) (.c (.int (0)))) (.tup .nil)) .nil))) .nil) (ρ := [.fz scr, .ow f, s2, s3, s4, .fz (board m rows), s6, .fz (.list (kinds.map tI)), s8, .ow (L ++ Z), .fz (tI lot), s11, s12, s13, s14, s15, s16]) (ρ1 := [.fz scr, .ow f, s2, s3, s4, .fz (board m rows), s6, .fz (.list (kinds.map tI)), s8, .ow (L ++ Z), .fz (tI lot), s11, s12, s13, s14, s15, s16]) (ρ2 := [.fz scr, .ow f, s2, s3, s4, .fz (board m rows), s6, .fz (.list (kinds.map tI)), s8, .ow (L ++ Z), .fz (tI lot), s11, s12, s13, s14, s15, s16]) (vs := [.d (.tuple [tI lot, tI k0])]) (ds := [.tuple [tI lot, tI k0]]) (o := (.none, L ++ Z ++ [.tuple [tI lot, tI k0]])) (ρ3 := [.fz scr, .ow f, s2, s3, s4, .fz (board m rows), s6, .fz (.list (kinds.map tI)), s8, .ow (L ++ Z ++ [.tuple [tI lot, tI k0]]), .fz (tI lot), s11, s12, s13, s14, s15, s16])
      rfl (by simp [opd, twoD, oneD, settle, look, slotD, alias1, aliasL, lookL, asInt, asBool, fits, sizeLine, binV, cmpV, truthD, slV, biV, isTy, runF, startE, argsFit, lentBack, handBack, store_if, storeN_if, storeV, change, isOwn, io_fz, io_un, io_ow, io_io, ixL, augI, augV, callV, handOver, lentAt, shownAt, putBack, Res.need, slot, immV, isNoneD, negV, SeqAt.shaped, ev_ii, ev_bb, ev_ss, ev_tt, ev_ll, PyData.eqvAll, PyData.canLay0, PyData.canLayAll0, PyData.depth, PyData.depthAll, -x_E_ife, ek0]) rfl (by
        have hz : (L ++ Z).length < sizeLine := by rw [List.length_append, sizeLine_eq]; omega
        show (if (L ++ Z).length < sizeLine then _ else none) = _
        rw [if_pos hz]
        rfl) rfl
    rw [e1, x_S_ex, em]
    rfl
  refine ⟨L ++ Z ++ [.tuple [tI lot, tI k0]], ?_, fun v hv => ?_, by rw [List.length_append, List.length_append, List.length_singleton]; omega⟩
  · have e : lotBody = .cons (nthS lotBody 0) (.cons (nthS lotBody 1) .nil) := rfl
    rw [e, ss_nx b0, ss_nx b1]
    rfl
  · rcases List.mem_append.mp hv with hv | hv
    · exact (List.mem_append.mp hv).elim (hL v) (hgood v)
    · rw [List.mem_singleton.mp hv]
      exact ⟨lot, k0, rfl, by omega, hk0⟩
theorem w_8 (hT : Tab m rows) (fw : Int) (hk : ∀ l ∈ kinds, l.length ≤ 6) (hkl : kinds.length ≤ 64) (hL : ∀ v ∈ L, GoodV v) (hl : L.length ≤ 80) (h10 : isIo s10 = false) : ∃ L' s10', evS C Lo (nthS lawBody 8) [.fz scr, .ow f, s2, s3, s4, .fz (board m rows), .fz (.list ((lotsZ m).map tI)), .fz (.list (kinds.map tI)), .fz (.int fw), .ow L, s10, s11, s12, s13, s14, s15, s16] = .ok (.nx [.fz scr, .ow f, s2, s3, s4, .fz (board m rows), .fz (.list ((lotsZ m).map tI)), .fz (.list (kinds.map tI)), .fz (.int fw), .ow L', s10', s11, s12, s13, s14, s15, s16]) ∧ isIo s10' = false ∧ (∀ v ∈ L', GoodV v) ∧ L'.length ≤ 5000 := by
  have hTn := turns_filterG (tg := .nm 10) (own := [10]) (ρ := [.fz scr, .ow f, s2, s3, s4, .fz (board m rows), .fz (.list ((lotsZ m).map tI)), .fz (.list (kinds.map tI)), .fz (.int fw), .ow L, .un, s11, s12, s13, s14, s15, s16]) (test := cT C Lo (.val (.cmp .Eq (.bi .len (.cons (.nm 10) .nil)) (.nm 8)))) (elt := cE C Lo (.nm 10))
    (ys := lotsZ m) (acc := []) tI (fun l => (l.length : Int) == fw) tI fun l _ => ⟨[.fz scr, .ow f, s2, s3, s4, .fz (board m rows), .fz (.list ((lotsZ m).map tI)), .fz (.list (kinds.map tI)), .fz (.int fw), .ow L, .fz (tI l), s11, s12, s13, s14, s15, s16], by simp [opd, twoD, oneD, settle, look, slotD, alias1, aliasL, lookL, asInt, asBool, fits, sizeLine, binV, cmpV, truthD, slV, biV, isTy, runF, startE, argsFit, lentBack, handBack, store_if, storeN_if, storeV, change, isOwn, io_fz, io_un, io_ow, io_io, ixL, augI, augV, callV, handOver, lentAt, shownAt, putBack, Res.need, slot, immV, isNoneD, negV, SeqAt.shaped, ev_ii, ev_bb, ev_ss, ev_tt, ev_ll, PyData.eqvAll, PyData.canLay0, PyData.canLayAll0, PyData.depth, PyData.depthAll, storeTg], by simp [opd, twoD, oneD, settle, look, slotD, alias1, aliasL, lookL, asInt, asBool, fits, sizeLine, binV, cmpV, truthD, slV, biV, isTy, runF, startE, argsFit, lentBack, handBack, store_if, storeN_if, storeV, change, isOwn, io_fz, io_un, io_ow, io_io, ixL, augI, augV, callV, handOver, lentAt, shownAt, putBack, Res.need, slot, immV, isNoneD, negV, SeqAt.shaped, ev_ii, ev_bb, ev_ss, ev_tt, ev_ll, PyData.eqvAll, PyData.canLay0, PyData.canLayAll0, PyData.depth, PyData.depthAll, biV], fun _ => by simp [opd, twoD, oneD, settle, look, slotD, alias1, aliasL, lookL, asInt, asBool, fits, sizeLine, binV, cmpV, truthD, slV, biV, isTy, runF, startE, argsFit, lentBack, handBack, store_if, storeN_if, storeV, change, isOwn, io_fz, io_un, io_ow, io_io, ixL, augI, augV, callV, handOver, lentAt, shownAt, putBack, Res.need, slot, immV, isNoneD, negV, SeqAt.shaped, ev_ii, ev_bb, ev_ss, ev_tt, ev_ll, PyData.eqvAll, PyData.canLay0, PyData.canLayAll0, PyData.depth, PyData.depthAll], by simp [opd, twoD, oneD, settle, look, slotD, alias1, aliasL, lookL, asInt, asBool, fits, sizeLine, binV, cmpV, truthD, slV, biV, isTy, runF, startE, argsFit, lentBack, handBack, store_if, storeN_if, storeV, change, isOwn, io_fz, io_un, io_ow, io_io, ixL, augI, augV, callV, handOver, lentAt, shownAt, putBack, Res.need, slot, immV, isNoneD, negV, SeqAt.shaped, ev_ii, ev_bb, ev_ss, ev_tt, ev_ll, PyData.eqvAll, PyData.canLay0, PyData.canLayAll0, PyData.depth, PyData.depthAll, wipeE]⟩
  rw [List.nil_append] at hTn
  have hS : evSrc C Lo (.seq (.nm 6)) [.fz scr, .ow f, s2, s3, s4, .fz (board m rows), .fz (.list ((lotsZ m).map tI)), .fz (.list (kinds.map tI)), .fz (.int fw), .ow L, s10, s11, s12, s13, s14, s15, s16] = .ok ((lotsZ m).map tI, [.fz scr, .ow f, s2, s3, s4, .fz (board m rows), .fz (.list ((lotsZ m).map tI)), .fz (.list (kinds.map tI)), .fz (.int fw), .ow L, s10, s11, s12, s13, s14, s15, s16]) := by simp [opd, twoD, oneD, settle, look, slotD, alias1, aliasL, lookL, asInt, asBool, fits, sizeLine, binV, cmpV, truthD, slV, biV, isTy, runF, startE, argsFit, lentBack, handBack, store_if, storeN_if, storeV, change, isOwn, io_fz, io_un, io_ow, io_io, ixL, augI, augV, callV, handOver, lentAt, shownAt, putBack, Res.need, slot, immV, isNoneD, negV, SeqAt.shaped, ev_ii, ev_bb, ev_ss, ev_tt, ev_ll, PyData.eqvAll, PyData.canLay0, PyData.canLayAll0, PyData.depth, PyData.depthAll, seqOf]
  have hc := compif_run (own := [10]) hS hTn
  have hres : restore [.fz scr, .ow f, s2, s3, s4, .fz (board m rows), .fz (.list ((lotsZ m).map tI)), .fz (.list (kinds.map tI)), .fz (.int fw), .ow L, s10, s11, s12, s13, s14, s15, s16] [.fz scr, .ow f, s2, s3, s4, .fz (board m rows), .fz (.list ((lotsZ m).map tI)), .fz (.list (kinds.map tI)), .fz (.int fw), .ow L, .un, s11, s12, s13, s14, s15, s16] [10] = [.fz scr, .ow f, s2, s3, s4, .fz (board m rows), .fz (.list ((lotsZ m).map tI)), .fz (.list (kinds.map tI)), .fz (.int fw), .ow L, s10, s11, s12, s13, s14, s15, s16] := by simp [opd, twoD, oneD, settle, look, slotD, alias1, aliasL, lookL, asInt, asBool, fits, sizeLine, binV, cmpV, truthD, slV, biV, isTy, runF, startE, argsFit, lentBack, handBack, store_if, storeN_if, storeV, change, isOwn, io_fz, io_un, io_ow, io_io, ixL, augI, augV, callV, handOver, lentAt, shownAt, putBack, Res.need, slot, immV, isNoneD, negV, SeqAt.shaped, ev_ii, ev_bb, ev_ss, ev_tt, ev_ll, PyData.eqvAll, PyData.canLay0, PyData.canLayAll0, PyData.depth, PyData.depthAll, restore]
  rw [hres] at hc
  obtain ⟨ls, sl, el⟩ := cut_map tI ((lotsZ m).filter fun l => (l.length : Int) == fw) none (some 40)
  have hm6 := hT.m6
  have hls : ls.length ≤ 64 := by
    have h1 := sl.length_le
    have h2 := List.length_filter_le (fun l => (l.length : Int) == fw) (lotsZ m)
    rw [lotsZ_len] at h2
    have h3 : 2 ^ m ≤ 2 ^ 6 := Nat.pow_le_pow_right (by omega) hm6
    omega
  have hlm : ∀ l ∈ ls, l.length ≤ 6 := fun l hl => by
    have := lotsZ_in (List.mem_filter.mp (sl.subset hl)).1
    omega
  generalize ((lotsZ m).filter fun l => (l.length : Int) == fw).map tI = W at hc el
  have hS2 : evSrc C Lo (.seq (.sl01 (.compif (.nm 10) (.nm 10) (.seq (.nm 6)) (.val (.cmp .Eq (.bi .len (.cons (.nm 10) .nil)) (.nm 8))) [10]) (.c (.int (40))))) [.fz scr, .ow f, s2, s3, s4, .fz (board m rows), .fz (.list ((lotsZ m).map tI)), .fz (.list (kinds.map tI)), .fz (.int fw), .ow L, s10, s11, s12, s13, s14, s15, s16] = .ok (ls.map tI, [.fz scr, .ow f, s2, s3, s4, .fz (board m rows), .fz (.list ((lotsZ m).map tI)), .fz (.list (kinds.map tI)), .fz (.int fw), .ow L, s10, s11, s12, s13, s14, s15, s16]) := by
    simp [opd, twoD, oneD, settle, look, slotD, alias1, aliasL, lookL, asInt, asBool, fits, sizeLine, binV, cmpV, truthD, slV, biV, isTy, runF, startE, argsFit, lentBack, handBack, store_if, storeN_if, storeV, change, isOwn, io_fz, io_un, io_ow, io_io, ixL, augI, augV, callV, handOver, lentAt, shownAt, putBack, Res.need, slot, immV, isNoneD, negV, SeqAt.shaped, ev_ii, ev_bb, ev_ss, ev_tt, ev_ll, PyData.eqvAll, PyData.canLay0, PyData.canLayAll0, PyData.depth, PyData.depthAll, -x_E_compif, hc, el, seqOf]
  obtain ⟨ρ', e1, L', t10, rfl, g10, p1, p2⟩ := forTurns_ok (tg := .nm 10) (body := cB C Lo lotBody) (xs := ls.map tI) (ρ := [.fz scr, .ow f, s2, s3, s4, .fz (board m rows), .fz (.list ((lotsZ m).map tI)), .fz (.list (kinds.map tI)), .fz (.int fw), .ow L, s10, s11, s12, s13, s14, s15, s16])
    (fun k ρ => ∃ L t10, ρ = [.fz scr, .ow f, s2, s3, s4, .fz (board m rows), .fz (.list ((lotsZ m).map tI)), .fz (.list (kinds.map tI)), .fz (.int fw), .ow L, t10, s11, s12, s13, s14, s15, s16] ∧ isIo t10 = false ∧ (∀ v ∈ L, GoodV v) ∧ L.length ≤ 80 + k * 65) 0
    (fun j x ρ hj hI => by
      obtain ⟨L, t10, rfl, g10, p1, p2⟩ := hI
      rw [List.getElem?_map] at hj
      cases hx : ls[j]? with
      | none => rw [hx] at hj; cases hj
      | some l =>
      rw [hx] at hj
      cases hj
      have hjl : j < ls.length := (List.getElem?_eq_some_iff.mp hx).1
      obtain ⟨L', e, g1, g2⟩ := lot_turn (scr := scr) (f := f) (s2 := s2) (s3 := s3) (s4 := s4) (s6 := .fz (.list ((lotsZ m).map tI))) (s8 := .fz (.int fw)) (s11 := s11) (s12 := s12) (s13 := s13) (s14 := s14) (s15 := s15) (s16 := s16) hT (hlm l (List.mem_of_getElem? hx)) hk hkl p1 (by omega)
      exact ⟨[.fz scr, .ow f, s2, s3, s4, .fz (board m rows), .fz (.list ((lotsZ m).map tI)), .fz (.list (kinds.map tI)), .fz (.int fw), .ow L, .fz (tI l), s11, s12, s13, s14, s15, s16], _, by simp [opd, twoD, oneD, settle, look, slotD, alias1, aliasL, lookL, asInt, asBool, fits, sizeLine, binV, cmpV, truthD, slV, biV, isTy, runF, startE, argsFit, lentBack, handBack, store_if, storeN_if, storeV, change, isOwn, io_fz, io_un, io_ow, io_io, ixL, augI, augV, callV, handOver, lentAt, shownAt, putBack, Res.need, slot, immV, isNoneD, negV, SeqAt.shaped, ev_ii, ev_bb, ev_ss, ev_tt, ev_ll, PyData.eqvAll, PyData.canLay0, PyData.canLayAll0, PyData.depth, PyData.depthAll, storeTg, g10], e, L', .fz (tI l), rfl, rfl, g1, by omega⟩) ⟨L, s10, rfl, h10, hL, by omega⟩
  rw [List.length_map] at p2
  exact ⟨L', t10, for_run hS2 e1, g10, p1, by omega⟩
end
end PX
namespace PX
open PySem PySem.Spec PyProof.Rows L2
def valBody : Ss := match nthS lawBody 9 with
  | .for_ _ _ b => b
  | _ => .nil
section
variable {scr : D} {f : List D} {b m : Nat} {rows : List (List Int)} {L : List D} {s2 s4 s6 s7 s9 s10 s11 s12 s13 s14 s15 s16 : Slot}
theorem val_turn {v : D} (hT : Tab m rows) (hv : GoodV v) (hf : Feed (b + 1) f) (h12 : isIo s12 = false) (h13 : isIo s13 = false) : ∃ (f' : List D) (t12 t13 : Slot), evSs C Lo valBody [.fz scr, .ow f, s2, .fz (.int m), s4, .fz (board m rows), s6, s7, .fz (.int (fewest m rows)), s9, s10, .fz v, s12, s13, s14, s15, s16] = .ok (.nx [.fz scr, .ow f', s2, .fz (.int m), s4, .fz (board m rows), s6, s7, .fz (.int (fewest m rows)), s9, s10, .fz v, t12, t13, s14, s15, s16]) ∧ isIo t12 = false ∧ isIo t13 = false ∧ Feed b f' := by
  have hok := hv.ok
  have ep := c_is_pair 9 (m := m) (rows := rows) hT.len hok
  have ej := c_judge 4 (m := m) (rows := rows) hT.row hT.len hok
  rw [hT.full, Bool.not_false, Bool.true_and] at ep ej
  obtain ⟨a, b', rfl, ha, hb'⟩ := hv
  obtain ⟨w, f', ew, okw, hf'⟩ := c_bent 9 (k := b) (m := m) (f := f) (a := a) (b := b') hf ha hb'
  have epw := c_is_pair 9 (m := m) (rows := rows) hT.len okw
  have ejw := c_judge 4 (m := m) (rows := rows) hT.row hT.len okw
  rw [hT.full, Bool.not_false, Bool.true_and] at epw ejw
  have es2 := c_same_2 9 (pairB m rows (.tuple [tI a, tI b']))
  have es1 := c_same_b 10 (pairB m rows w)
  simp only [Nat.reduceAdd] at ep ej ew epw ejw es2 es1
  have hfew : pairB m rows (.tuple [tI a, tI b']) = true → (a.length : Int) = fewest m rows := fun h => by
    have := due_few hT h
    rwa [ints1_tI] at this
  generalize hdue : pairB m rows (.tuple [tI a, tI b']) = due at *
  generalize pairB m rows w = dw at *
  refine ⟨f', .fz (.bool due), .fz w, ?_, rfl, rfl, hf'⟩
  have e0 : atI [tI a, tI b'] 0 = some (tI a) := at0
  generalize hV : PyData.tuple [tI a, tI b'] = V at ep ej ew
  have b0 : evS C Lo (nthS valBody 0) [.fz scr, .ow f, s2, .fz (.int m), s4, .fz (board m rows), s6, s7, .fz (.int (fewest m rows)), s9, s10, .fz V, s12, s13, s14, s15, s16] = .ok (.nx [.fz scr, .ow f, s2, .fz (.int m), s4, .fz (board m rows), s6, s7, .fz (.int (fewest m rows)), s9, s10, .fz V, .fz (.bool due), s13, s14, s15, s16]) := by
    simp [opd, twoD, oneD, settle, look, slotD, alias1, aliasL, lookL, asInt, asBool, fits, sizeLine, binV, cmpV, truthD, slV, biV, isTy, runF, startE, argsFit, lentBack, handBack, store_if, storeN_if, storeV, change, isOwn, io_fz, io_un, io_ow, io_io, ixL, augI, augV, callV, handOver, lentAt, shownAt, putBack, Res.need, slot, immV, isNoneD, negV, SeqAt.shaped, ev_ii, ev_bb, ev_ss, ev_tt, ev_ll, PyData.eqvAll, PyData.canLay0, PyData.canLayAll0, PyData.depth, PyData.depthAll, nthS, valBody, lawBody, f_law, l_is_pair, ep, h12]
  have b1 : evS C Lo (nthS valBody 1) [.fz scr, .ow f, s2, .fz (.int m), s4, .fz (board m rows), s6, s7, .fz (.int (fewest m rows)), s9, s10, .fz V, .fz (.bool due), s13, s14, s15, s16] = .ok (.nx [.fz scr, .ow f, s2, .fz (.int m), s4, .fz (board m rows), s6, s7, .fz (.int (fewest m rows)), s9, s10, .fz V, .fz (.bool due), s13, s14, s15, s16]) := by
    simp [opd, twoD, oneD, settle, look, slotD, alias1, aliasL, lookL, asInt, asBool, fits, sizeLine, binV, cmpV, truthD, slV, biV, isTy, runF, startE, argsFit, lentBack, handBack, store_if, storeN_if, storeV, change, isOwn, io_fz, io_un, io_ow, io_io, ixL, augI, augV, callV, handOver, lentAt, shownAt, putBack, Res.need, slot, immV, isNoneD, negV, SeqAt.shaped, ev_ii, ev_bb, ev_ss, ev_tt, ev_ll, PyData.eqvAll, PyData.canLay0, PyData.canLayAll0, PyData.depth, PyData.depthAll, nthS, valBody, lawBody, f_law, l_judge_points, l_same, ej, es2]
  have b2 : evS C Lo (nthS valBody 2) [.fz scr, .ow f, s2, .fz (.int m), s4, .fz (board m rows), s6, s7, .fz (.int (fewest m rows)), s9, s10, .fz V, .fz (.bool due), s13, s14, s15, s16] = .ok (.nx [.fz scr, .ow f, s2, .fz (.int m), s4, .fz (board m rows), s6, s7, .fz (.int (fewest m rows)), s9, s10, .fz V, .fz (.bool due), s13, s14, s15, s16]) := by
    subst hV
    cases due with
    | false => simp [opd, twoD, oneD, settle, look, slotD, alias1, aliasL, lookL, asInt, asBool, fits, sizeLine, binV, cmpV, truthD, slV, biV, isTy, runF, startE, argsFit, lentBack, handBack, store_if, storeN_if, storeV, change, isOwn, io_fz, io_un, io_ow, io_io, ixL, augI, augV, callV, handOver, lentAt, shownAt, putBack, Res.need, slot, immV, isNoneD, negV, SeqAt.shaped, ev_ii, ev_bb, ev_ss, ev_tt, ev_ll, PyData.eqvAll, PyData.canLay0, PyData.canLayAll0, PyData.depth, PyData.depthAll, nthS, valBody, lawBody, f_law]
    | true =>
      have hq := hfew rfl
      simp [opd, twoD, oneD, settle, look, slotD, alias1, aliasL, lookL, asInt, asBool, fits, sizeLine, binV, cmpV, truthD, slV, biV, isTy, runF, startE, argsFit, lentBack, handBack, store_if, storeN_if, storeV, change, isOwn, io_fz, io_un, io_ow, io_io, ixL, augI, augV, callV, handOver, lentAt, shownAt, putBack, Res.need, slot, immV, isNoneD, negV, SeqAt.shaped, ev_ii, ev_bb, ev_ss, ev_tt, ev_ll, PyData.eqvAll, PyData.canLay0, PyData.canLayAll0, PyData.depth, PyData.depthAll, nthS, valBody, lawBody, f_law, ixV, e0, biV, hq]
  have b3 : evS C Lo (nthS valBody 3) [.fz scr, .ow f, s2, .fz (.int m), s4, .fz (board m rows), s6, s7, .fz (.int (fewest m rows)), s9, s10, .fz V, .fz (.bool due), s13, s14, s15, s16] = .ok (.nx [.fz scr, .ow f', s2, .fz (.int m), s4, .fz (board m rows), s6, s7, .fz (.int (fewest m rows)), s9, s10, .fz V, .fz (.bool due), .fz w, s14, s15, s16]) := by
    simp [opd, twoD, oneD, settle, look, slotD, alias1, aliasL, lookL, asInt, asBool, fits, sizeLine, binV, cmpV, truthD, slV, biV, isTy, runF, startE, argsFit, lentBack, handBack, store_if, storeN_if, storeV, change, isOwn, io_fz, io_un, io_ow, io_io, ixL, augI, augV, callV, handOver, lentAt, shownAt, putBack, Res.need, slot, immV, isNoneD, negV, SeqAt.shaped, ev_ii, ev_bb, ev_ss, ev_tt, ev_ll, PyData.eqvAll, PyData.canLay0, PyData.canLayAll0, PyData.depth, PyData.depthAll, nthS, valBody, lawBody, f_law, l_bent, ew, h13]
  have b4 : evS C Lo (nthS valBody 4) [.fz scr, .ow f', s2, .fz (.int m), s4, .fz (board m rows), s6, s7, .fz (.int (fewest m rows)), s9, s10, .fz V, .fz (.bool due), .fz w, s14, s15, s16] = .ok (.nx [.fz scr, .ow f', s2, .fz (.int m), s4, .fz (board m rows), s6, s7, .fz (.int (fewest m rows)), s9, s10, .fz V, .fz (.bool due), .fz w, s14, s15, s16]) := by
    simp [opd, twoD, oneD, settle, look, slotD, alias1, aliasL, lookL, asInt, asBool, fits, sizeLine, binV, cmpV, truthD, slV, biV, isTy, runF, startE, argsFit, lentBack, handBack, store_if, storeN_if, storeV, change, isOwn, io_fz, io_un, io_ow, io_io, ixL, augI, augV, callV, handOver, lentAt, shownAt, putBack, Res.need, slot, immV, isNoneD, negV, SeqAt.shaped, ev_ii, ev_bb, ev_ss, ev_tt, ev_ll, PyData.eqvAll, PyData.canLay0, PyData.canLayAll0, PyData.depth, PyData.depthAll, nthS, valBody, lawBody, f_law, l_judge_points, l_is_pair, l_same, ejw, epw, es1]
  have e : valBody = .cons (nthS valBody 0) (.cons (nthS valBody 1) (.cons (nthS valBody 2) (.cons (nthS valBody 3) (.cons (nthS valBody 4) .nil)))) := rfl
  rw [e, ss_nx b0, ss_nx b1, ss_nx b2, ss_nx b3, ss_nx b4]
  rfl
theorem w_9 (hT : Tab m rows) (hL : ∀ v ∈ L, GoodV v) (hl : L.length ≤ 5000) (hf : Feed (b + 5000) f) (h11 : isIo s11 = false) (h12 : isIo s12 = false) (h13 : isIo s13 = false) : ∃ (f' : List D) (t11 t12 t13 : Slot), evS C Lo (nthS lawBody 9) [.fz scr, .ow f, s2, .fz (.int m), s4, .fz (board m rows), s6, s7, .fz (.int (fewest m rows)), .ow L, s10, s11, s12, s13, s14, s15, s16] = .ok (.nx [.fz scr, .ow f', s2, .fz (.int m), s4, .fz (board m rows), s6, s7, .fz (.int (fewest m rows)), .fz (.list L), s10, t11, t12, t13, s14, s15, s16]) ∧ isIo t11 = false ∧ isIo t12 = false ∧ isIo t13 = false ∧ Feed b f' := by
  have hS : evSrc C Lo (.seq (.nm 9)) [.fz scr, .ow f, s2, .fz (.int m), s4, .fz (board m rows), s6, s7, .fz (.int (fewest m rows)), .ow L, s10, s11, s12, s13, s14, s15, s16] = .ok (L, [.fz scr, .ow f, s2, .fz (.int m), s4, .fz (board m rows), s6, s7, .fz (.int (fewest m rows)), .fz (.list L), s10, s11, s12, s13, s14, s15, s16]) := by simp [opd, twoD, oneD, settle, look, slotD, alias1, aliasL, lookL, asInt, asBool, fits, sizeLine, binV, cmpV, truthD, slV, biV, isTy, runF, startE, argsFit, lentBack, handBack, store_if, storeN_if, storeV, change, isOwn, io_fz, io_un, io_ow, io_io, ixL, augI, augV, callV, handOver, lentAt, shownAt, putBack, Res.need, slot, immV, isNoneD, negV, SeqAt.shaped, ev_ii, ev_bb, ev_ss, ev_tt, ev_ll, PyData.eqvAll, PyData.canLay0, PyData.canLayAll0, PyData.depth, PyData.depthAll, seqOf]
  obtain ⟨ρ', e1, f', t11, t12, t13, rfl, hf', g11, g12, g13⟩ := forTurns_ok (tg := .nm 11) (body := cB C Lo valBody) (xs := L) (ρ := [.fz scr, .ow f, s2, .fz (.int m), s4, .fz (board m rows), s6, s7, .fz (.int (fewest m rows)), .fz (.list L), s10, s11, s12, s13, s14, s15, s16])
    (fun k ρ => ∃ f t11 t12 t13, ρ = [.fz scr, .ow f, s2, .fz (.int m), s4, .fz (board m rows), s6, s7, .fz (.int (fewest m rows)), .fz (.list L), s10, t11, t12, t13, s14, s15, s16] ∧ Feed (b + (5000 - k)) f ∧ isIo t11 = false ∧ isIo t12 = false ∧ isIo t13 = false) 0
    (fun j x ρ hj hI => by
      obtain ⟨f, t11, t12, t13, rfl, hf, g11, g12, g13⟩ := hI
      have hjl : j < L.length := (List.getElem?_eq_some_iff.mp hj).1
      obtain ⟨f', u12, u13, e, k12, k13, hf'⟩ := val_turn (scr := scr) (s2 := s2) (s4 := s4) (s6 := s6) (s7 := s7) (s9 := .fz (.list L)) (s10 := s10) (s14 := s14) (s15 := s15) (s16 := s16) (b := b + (5000 - (0 + j + 1))) hT (hL x (List.mem_of_getElem? hj)) (hf.weak (by omega)) g12 g13
      exact ⟨[.fz scr, .ow f, s2, .fz (.int m), s4, .fz (board m rows), s6, s7, .fz (.int (fewest m rows)), .fz (.list L), s10, .fz x, t12, t13, s14, s15, s16], _, by simp [opd, twoD, oneD, settle, look, slotD, alias1, aliasL, lookL, asInt, asBool, fits, sizeLine, binV, cmpV, truthD, slV, biV, isTy, runF, startE, argsFit, lentBack, handBack, store_if, storeN_if, storeV, change, isOwn, io_fz, io_un, io_ow, io_io, ixL, augI, augV, callV, handOver, lentAt, shownAt, putBack, Res.need, slot, immV, isNoneD, negV, SeqAt.shaped, ev_ii, ev_bb, ev_ss, ev_tt, ev_ll, PyData.eqvAll, PyData.canLay0, PyData.canLayAll0, PyData.depth, PyData.depthAll, storeTg, g11], e, f', .fz x, u12, u13, rfl, hf', rfl, k12, k13⟩) ⟨f, s11, s12, s13, rfl, hf.weak (by omega), h11, h12, h13⟩
  exact ⟨f', t11, t12, t13, for_run hS e1, g11, g12, g13, hf'.weak (by omega)⟩
theorem w_10 {s8 : Slot} (hT : Tab m rows) : evS C Lo (nthS lawBody 10) [.fz scr, .ow f, s2, .fz (.int m), s4, .fz (board m rows), s6, s7, s8, s9, s10, s11, s12, s13, s14, s15, s16] = .ok (.nx [.fz scr, .ow f, s2, .fz (.int m), s4, .fz (board m rows), s6, s7, s8, s9, s10, s11, s12, s13, s14, s15, s16]) := by
  have o0 : okV (.tuple [tI [0], tI [0]]) := okV_two (okSide_ints (by decide)) (okSide_ints (by decide))
  have o1 : okV (.tuple [tI [], tI []]) := okV_two (okSide_ints (by decide)) (okSide_ints (by decide))
  have ej := c_judge 4 (m := m) (rows := rows ++ [[]]) (fun r hr => by
    rcases List.mem_append.mp hr with hr | hr
    · exact hT.row r hr
    · rw [List.mem_singleton.mp hr]
      exact ⟨List.Pairwise.nil, by simp [opd, twoD, oneD, settle, look, slotD, alias1, aliasL, lookL, asInt, asBool, fits, sizeLine, binV, cmpV, truthD, slV, biV, isTy, runF, startE, argsFit, lentBack, handBack, store_if, storeN_if, storeV, change, isOwn, io_fz, io_un, io_ow, io_io, ixL, augI, augV, callV, handOver, lentAt, shownAt, putBack, Res.need, slot, immV, isNoneD, negV, SeqAt.shaped, ev_ii, ev_bb, ev_ss, ev_tt, ev_ll, PyData.eqvAll, PyData.canLay0, PyData.canLayAll0, PyData.depth, PyData.depthAll], by simp [opd, twoD, oneD, settle, look, slotD, alias1, aliasL, lookL, asInt, asBool, fits, sizeLine, binV, cmpV, truthD, slV, biV, isTy, runF, startE, argsFit, lentBack, handBack, store_if, storeN_if, storeV, change, isOwn, io_fz, io_un, io_ow, io_io, ixL, augI, augV, callV, handOver, lentAt, shownAt, putBack, Res.need, slot, immV, isNoneD, negV, SeqAt.shaped, ev_ii, ev_bb, ev_ss, ev_tt, ev_ll, PyData.eqvAll, PyData.canLay0, PyData.canLayAll0, PyData.depth, PyData.depthAll]⟩) (fun r hr => by
    rcases List.mem_append.mp hr with hr | hr
    · exact hT.len r hr
    · rw [List.mem_singleton.mp hr]
      simp [opd, twoD, oneD, settle, look, slotD, alias1, aliasL, lookL, asInt, asBool, fits, sizeLine, binV, cmpV, truthD, slV, biV, isTy, runF, startE, argsFit, lentBack, handBack, store_if, storeN_if, storeV, change, isOwn, io_fz, io_un, io_ow, io_io, ixL, augI, augV, callV, handOver, lentAt, shownAt, putBack, Res.need, slot, immV, isNoneD, negV, SeqAt.shaped, ev_ii, ev_bb, ev_ss, ev_tt, ev_ll, PyData.eqvAll, PyData.canLay0, PyData.canLayAll0, PyData.depth, PyData.depthAll]) o0
  have z1 : (rows ++ [[]]).any (·.isEmpty) = true := by simp [opd, twoD, oneD, settle, look, slotD, alias1, aliasL, lookL, asInt, asBool, fits, sizeLine, binV, cmpV, truthD, slV, biV, isTy, runF, startE, argsFit, lentBack, handBack, store_if, storeN_if, storeV, change, isOwn, io_fz, io_un, io_ow, io_io, ixL, augI, augV, callV, handOver, lentAt, shownAt, putBack, Res.need, slot, immV, isNoneD, negV, SeqAt.shaped, ev_ii, ev_bb, ev_ss, ev_tt, ev_ll, PyData.eqvAll, PyData.canLay0, PyData.canLayAll0, PyData.depth, PyData.depthAll]
  rw [z1] at ej
  have ej2 := c_judge 4 (m := 0) (rows := []) (by simp [opd, twoD, oneD, settle, look, slotD, alias1, aliasL, lookL, asInt, asBool, fits, sizeLine, binV, cmpV, truthD, slV, biV, isTy, runF, startE, argsFit, lentBack, handBack, store_if, storeN_if, storeV, change, isOwn, io_fz, io_un, io_ow, io_io, ixL, augI, augV, callV, handOver, lentAt, shownAt, putBack, Res.need, slot, immV, isNoneD, negV, SeqAt.shaped, ev_ii, ev_bb, ev_ss, ev_tt, ev_ll, PyData.eqvAll, PyData.canLay0, PyData.canLayAll0, PyData.depth, PyData.depthAll]) (by simp [opd, twoD, oneD, settle, look, slotD, alias1, aliasL, lookL, asInt, asBool, fits, sizeLine, binV, cmpV, truthD, slV, biV, isTy, runF, startE, argsFit, lentBack, handBack, store_if, storeN_if, storeV, change, isOwn, io_fz, io_un, io_ow, io_io, ixL, augI, augV, callV, handOver, lentAt, shownAt, putBack, Res.need, slot, immV, isNoneD, negV, SeqAt.shaped, ev_ii, ev_bb, ev_ss, ev_tt, ev_ll, PyData.eqvAll, PyData.canLay0, PyData.canLayAll0, PyData.depth, PyData.depthAll]) o1
  have z2 : pairB 0 [] (.tuple [tI [], tI []]) = true := by
    have a1 := setB_of (m := 0) (ns := []) List.Pairwise.nil (by simp [opd, twoD, oneD, settle, look, slotD, alias1, aliasL, lookL, asInt, asBool, fits, sizeLine, binV, cmpV, truthD, slV, biV, isTy, runF, startE, argsFit, lentBack, handBack, store_if, storeN_if, storeV, change, isOwn, io_fz, io_un, io_ow, io_io, ixL, augI, augV, callV, handOver, lentAt, shownAt, putBack, Res.need, slot, immV, isNoneD, negV, SeqAt.shaped, ev_ii, ev_bb, ev_ss, ev_tt, ev_ll, PyData.eqvAll, PyData.canLay0, PyData.canLayAll0, PyData.depth, PyData.depthAll])
    simp only [pairB, ints1_tI]
    rw [show ((0 : Nat) : Int) = 0 from rfl, a1, show (([] : List (List Int)).length : Int) = 0 from rfl, a1]
    rfl
  rw [z2] at ej2
  simp only [Nat.reduceAdd] at ej ej2
  have er := e_rows (m := m) (rows := rows) (call := C) (lo := Lo) (rest := [s6, s7, s8, s9, s10, s11, s12, s13, s14, s15, s16])
  have hfit : rows.length ≤ 16777215 := by have := hT.few; omega
  have e1 : atI [PyData.int m, PyData.tuple (rows.map tI)] 1 = some (.tuple (rows.map tI)) := at1
  have ej' : callN P 11 "judge_points" [.fz (.tuple [.int m, .tuple (rows.map tI ++ [.tuple []])]), .fz (.tuple [.tuple [.int 0], .tuple [.int 0]])] = .ok (.d (.bool false), []) := by
    have := ej
    simp only [board, tR, List.map_append, List.map_cons, List.map_nil] at this
    exact this
  have ej2' : callN P 11 "judge_points" [.fz (.tuple [.int 0, .tuple []]), .fz (.tuple [.tuple [], .tuple []])] = .ok (.d (.bool true), []) := ej2
  simp [opd, twoD, oneD, settle, look, slotD, alias1, aliasL, lookL, asInt, asBool, fits, sizeLine, binV, cmpV, truthD, slV, biV, isTy, runF, startE, argsFit, lentBack, handBack, store_if, storeN_if, storeV, change, isOwn, io_fz, io_un, io_ow, io_io, ixL, augI, augV, callV, handOver, lentAt, shownAt, putBack, Res.need, slot, immV, isNoneD, negV, SeqAt.shaped, ev_ii, ev_bb, ev_ss, ev_tt, ev_ll, PyData.eqvAll, PyData.canLay0, PyData.canLayAll0, PyData.depth, PyData.depthAll, nthS, lawBody, f_law, board, tR, ixV, e1, hfit, l_judge_points, ej', ej2']
end
theorem l_turn {scr : D} {f : List D} {b : Nat} {s2 s3 s4 s5 s6 s7 s8 s9 s10 s11 s12 s13 s14 s15 s16 : Slot} (hf : Feed (b + 6000) f) (h3 : isIo s3 = false) (h4 : isIo s4 = false) (h5 : isIo s5 = false) (h6 : isIo s6 = false) (h7 : isIo s7 = false) (h8 : isIo s8 = false) (h9 : isIo s9 = false) (h10 : isIo s10 = false) (h11 : isIo s11 = false) (h12 : isIo s12 = false) (h13 : isIo s13 = false) :
    ∃ (f' : List D) (t3 t4 t5 t6 t7 t8 t9 t10 t11 t12 t13 : Slot), evSs C Lo lawBody [.fz scr, .ow f, s2, s3, s4, s5, s6, s7, s8, s9, s10, s11, s12, s13, s14, s15, s16] = .ok (.nx [.fz scr, .ow f', s2, t3, t4, t5, t6, t7, t8, t9, t10, t11, t12, t13, s14, s15, s16]) ∧ Feed b f' ∧ isIo t3 = false ∧ isIo t4 = false ∧ isIo t5 = false ∧ isIo t6 = false ∧ isIo t7 = false ∧ isIo t8 = false ∧ isIo t9 = false ∧ isIo t10 = false ∧ isIo t11 = false ∧ isIo t12 = false ∧ isIo t13 = false := by
  obtain ⟨m, f1, e0, m1, m6, hf1⟩ := w_0 (scr := scr) (s2 := s2) (s4 := s4) (s5 := s5) (s6 := s6) (s7 := s7) (s8 := s8) (s9 := s9) (s10 := s10) (s11 := s11) (s12 := s12) (s13 := s13) (s14 := s14) (s15 := s15) (s16 := s16) (b := b + 5900) (hf.weak (by omega)) h3
  obtain ⟨rows0, f2, e1, r1, r2, hf2⟩ := w_1 (scr := scr) (s2 := s2) (s5 := s5) (s6 := s6) (s7 := s7) (s8 := s8) (s9 := s9) (s10 := s10) (s11 := s11) (s12 := s12) (s13 := s13) (s14 := s14) (s15 := s15) (s16 := s16) (b := b + 5700) m6 (hf1.weak (by omega)) h4
  obtain ⟨rows, f3, e2, hT, hlr, hf3⟩ := w_2 (scr := scr) (s2 := s2) (s6 := s6) (s7 := s7) (s8 := s8) (s9 := s9) (s10 := s10) (s11 := s11) (s12 := s12) (s13 := s13) (s14 := s14) (s15 := s15) (s16 := s16) (b := b + 5600) m1 m6 r1 r2 (hf2.weak (by omega)) h5
  have e3 := w_3 (scr := scr) (f := f3) (m := m) (rows0 := rows0) (s2 := s2) (s5 := .fz (board m rows)) (s8 := s8) (s9 := s9) (s10 := s10) (s11 := s11) (s12 := s12) (s13 := s13) (s14 := s14) (s15 := s15) (s16 := s16) m6 r2 h6 h7
  have e4 := w_4 (scr := scr) (f := f3) (s2 := s2) (s3 := .fz (.int m)) (s4 := .fz (.list (rows0.map tI))) (s7 := .fz (.list ((lotsZ rows0.length).map tI))) (s9 := s9) (s10 := s10) (s11 := s11) (s12 := s12) (s13 := s13) (s14 := s14) (s15 := s15) (s16 := s16) hT h8
  obtain ⟨L5, f5, e5, g5, l5, hf5⟩ := w_5 (scr := scr) (f := f3) (s2 := s2) (s3 := .fz (.int m)) (s4 := .fz (.list (rows0.map tI))) (s5 := .fz (board m rows)) (s8 := .fz (.int (fewest m rows))) (s10 := s10) (s11 := s11) (s12 := s12) (s13 := s13) (s14 := s14) (s15 := s15) (s16 := s16) (b := b + 5500) m6 r2 (hf3.weak (by omega)) h9
  obtain ⟨L6, e6, g6, l6⟩ := w_6 (scr := scr) (f := f5) (s2 := s2) (s3 := .fz (.int m)) (s4 := .fz (.list (rows0.map tI))) (s5 := .fz (board m rows)) (s8 := .fz (.int (fewest m rows))) (s10 := s10) (s11 := s11) (s12 := s12) (s13 := s13) (s14 := s14) (s15 := s15) (s16 := s16) m6 r2 g5 l5
  obtain ⟨kinds, e7, k1, k2⟩ := w_7 (scr := scr) (f := f5) (s2 := s2) (s3 := .fz (.int m)) (s4 := .fz (.list (rows0.map tI))) (s5 := .fz (board m rows)) (s6 := .fz (.list ((lotsZ m).map tI))) (s9 := .ow L6) (s10 := s10) (s11 := s11) (s12 := s12) (s13 := s13) (s14 := s14) (s15 := s15) (s16 := s16) r2 (fewest m rows) trivial
  obtain ⟨L8, t10, e8, g10, g8, l8⟩ := w_8 (scr := scr) (f := f5) (s2 := s2) (s3 := .fz (.int m)) (s4 := .fz (.list (rows0.map tI))) (s11 := s11) (s12 := s12) (s13 := s13) (s14 := s14) (s15 := s15) (s16 := s16) hT (fewest m rows) k1 k2 g6 l6 h10
  obtain ⟨f9, t11, t12, t13, e9, g11, g12, g13, hf9⟩ := w_9 (scr := scr) (f := f5) (s2 := s2) (s4 := .fz (.list (rows0.map tI))) (s6 := .fz (.list ((lotsZ m).map tI))) (s7 := .fz (.list (kinds.map tI))) (s10 := t10) (s14 := s14) (s15 := s15) (s16 := s16) (b := b) hT g8 l8 (hf5.weak (by omega)) h11 h12 h13
  have e10 := w_10 (scr := scr) (f := f9) (s2 := s2) (s4 := .fz (.list (rows0.map tI))) (s6 := .fz (.list ((lotsZ m).map tI))) (s7 := .fz (.list (kinds.map tI))) (s8 := .fz (.int (fewest m rows))) (s9 := .fz (.list L8)) (s10 := t10) (s11 := t11) (s12 := t12) (s13 := t13) (s14 := s14) (s15 := s15) (s16 := s16) hT
  refine ⟨f9, .fz (.int m), .fz (.list (rows0.map tI)), .fz (board m rows), .fz (.list ((lotsZ m).map tI)), .fz (.list (kinds.map tI)), .fz (.int (fewest m rows)), .fz (.list L8), t10, t11, t12, t13, ?_, hf9, rfl, rfl, rfl, rfl, rfl, rfl, rfl, g10, g11, g12, g13⟩
  have e : lawBody = .cons (nthS lawBody 0) (.cons (nthS lawBody 1) (.cons (nthS lawBody 2) (.cons (nthS lawBody 3) (.cons (nthS lawBody 4) (.cons (nthS lawBody 5) (.cons (nthS lawBody 6) (.cons (nthS lawBody 7) (.cons (nthS lawBody 8) (.cons (nthS lawBody 9) (.cons (nthS lawBody 10) .nil)))))))))) := rfl
  rw [e, ss_nx e0, ss_nx e1, ss_nx e2, ss_nx e3, ss_nx e4, ss_nx e5, ss_nx e6, ss_nx e7, ss_nx e8, ss_nx e9, ss_nx e10]
  rfl
theorem law_true : ∀ ns : List Int, ns.length ≤ 63 → callN P 12 "law" [.fz (.list (ns.map PyData.int))] = .ok (.d (.bool true), []) := by
  intro ns hn
  obtain ⟨f0, e, hf0⟩ := c_feed 10 ns
  have e0 : evS C Lo (nthS f_law.body 0) [.fz (.list (ns.map PyData.int)), .un, .un, .un, .un, .un, .un, .un, .un, .un, .un, .un, .un, .un, .un, .un, .un] = .ok (.nx [.fz (.list (ns.map PyData.int)), .ow f0, .un, .un, .un, .un, .un, .un, .un, .un, .un, .un, .un, .un, .un, .un, .un]) := by
    simp only [Nat.reduceAdd] at e
    simp [opd, twoD, oneD, settle, look, slotD, alias1, aliasL, lookL, asInt, asBool, fits, sizeLine, binV, cmpV, truthD, slV, biV, isTy, runF, startE, argsFit, lentBack, handBack, store_if, storeN_if, storeV, change, isOwn, io_fz, io_un, io_ow, io_io, ixL, augI, augV, callV, handOver, lentAt, shownAt, putBack, Res.need, slot, immV, isNoneD, negV, SeqAt.shaped, ev_ii, ev_bb, ev_ss, ev_tt, ev_ll, PyData.eqvAll, PyData.canLay0, PyData.canLayAll0, PyData.depth, PyData.depthAll, nthS, f_law, l_feed, e]
  obtain ⟨ρ', e1, f', s2, s3, s4, s5, s6, s7, s8, s9, s10, s11, s12, s13, rfl, _⟩ := forTurns_ok (tg := .nm 2) (body := cB C Lo lawBody) (xs := (List.range 3).map fun (k : Nat) => .int k) (ρ := [.fz (.list (ns.map PyData.int)), .ow f0, .un, .un, .un, .un, .un, .un, .un, .un, .un, .un, .un, .un, .un, .un, .un])
    (fun j ρ => ∃ (f : List D) (s2 s3 s4 s5 s6 s7 s8 s9 s10 s11 s12 s13 : Slot), ρ = [.fz (.list (ns.map PyData.int)), .ow f, s2, s3, s4, s5, s6, s7, s8, s9, s10, s11, s12, s13, .un, .un, .un] ∧ Feed (20000 - j * 6000) f ∧ isIo s2 = false ∧ isIo s3 = false ∧ isIo s4 = false ∧ isIo s5 = false ∧ isIo s6 = false ∧ isIo s7 = false ∧ isIo s8 = false ∧ isIo s9 = false ∧ isIo s10 = false ∧ isIo s11 = false ∧ isIo s12 = false ∧ isIo s13 = false) 0
    (fun j x ρ hj hI => by
      obtain ⟨f, s2, s3, s4, s5, s6, s7, s8, s9, s10, s11, s12, s13, rfl, hf, h2, h3, h4, h5, h6, h7, h8, h9, h10, h11, h12, h13⟩ := hI
      obtain ⟨hjm, rfl⟩ := range_at hj
      obtain ⟨f', t3, t4, t5, t6, t7, t8, t9, t10, t11, t12, t13, e, hf', g3, g4, g5, g6, g7, g8, g9, g10, g11, g12, g13⟩ := l_turn (scr := .list (ns.map PyData.int)) (s2 := .fz (.int j)) (s14 := .un) (s15 := .un) (s16 := .un) (b := 20000 - (0 + j + 1) * 6000) (hf.weak (by omega)) h3 h4 h5 h6 h7 h8 h9 h10 h11 h12 h13
      exact ⟨[.fz (.list (ns.map PyData.int)), .ow f, .fz (.int j), s3, s4, s5, s6, s7, s8, s9, s10, s11, s12, s13, .un, .un, .un], _, by simp [opd, twoD, oneD, settle, look, slotD, alias1, aliasL, lookL, asInt, asBool, fits, sizeLine, binV, cmpV, truthD, slV, biV, isTy, runF, startE, argsFit, lentBack, handBack, store_if, storeN_if, storeV, change, isOwn, io_fz, io_un, io_ow, io_io, ixL, augI, augV, callV, handOver, lentAt, shownAt, putBack, Res.need, slot, immV, isNoneD, negV, SeqAt.shaped, ev_ii, ev_bb, ev_ss, ev_tt, ev_ll, PyData.eqvAll, PyData.canLay0, PyData.canLayAll0, PyData.depth, PyData.depthAll, storeTg, h2], e, f', _, t3, t4, t5, t6, t7, t8, t9, t10, t11, t12, t13, rfl, hf', rfl, g3, g4, g5, g6, g7, g8, g9, g10, g11, g12, g13⟩) ⟨f0, _, _, _, _, _, _, _, _, _, _, _, _, rfl, hf0.weak (by decide), rfl, rfl, rfl, rfl, rfl, rfl, rfl, rfl, rfl, rfl, rfl, rfl⟩
  have hS := rng1_at (call := C) (lo := Lo) (a := .c (.int 3)) (ρ := [.fz (.list (ns.map PyData.int)), .ow f0, .un, .un, .un, .un, .un, .un, .un, .un, .un, .un, .un, .un, .un, .un, .un]) (m := 3) rfl (by decide)
  have e1' : evS C Lo (nthS f_law.body 1) [.fz (.list (ns.map PyData.int)), .ow f0, .un, .un, .un, .un, .un, .un, .un, .un, .un, .un, .un, .un, .un, .un, .un] = .ok (.nx [.fz (.list (ns.map PyData.int)), .ow f', s2, s3, s4, s5, s6, s7, s8, s9, s10, s11, s12, s13, .un, .un, .un]) := for_run hS e1
  exact call_ret (fd := f_law) rfl ⟨rfl, rfl⟩ ((ss_nx e0).trans ((ss_nx e1').trans (ss_ret (v := .d (.bool true)) (ρ1 := [.fz (.list (ns.map PyData.int)), .ow f', s2, s3, s4, s5, s6, s7, s8, s9, s10, s11, s12, s13, .un, .un, .un]) rfl))) rfl rfl
end PX
namespace PX
open PySem PySem.Spec PyProof.Rows L2
abbrev RR : PySem.W.OpenRow := PySem.W.OpenLaw.row PySem.Challenge.rw_wholebeside_k80_whole_papers_of_points_b
abbrev hk : PySem.W.Hook := He.hookD 4 fa fn
def ob (s : PySem.W.SharedT) : He.AlD := He.obsDG 4 fa fn (HandSHeadRun.getT s)
theorem ob_eq (s : PySem.W.SharedT) : ob s = hk.obs s.abs := He.obsDG_eq (HandSHeadRun.getT_eq s)
theorem run (w : World) : HandSHeadRun.RunEq RR (PySem.W.view RR.prog [26]) hk ob 4000 ["BesideError", "InvalidTable", "is_integer", "is_natural", "are_naturals", "is_set", "is_table_of", "check_table", "is_set_below", "are_apart", "judge_points", "_law_feed", "_law_drawn", "_law_same", "_law_row", "_law_is_set", "_law_is_pair", "_law_lots", "_law_meets", "_law_bent"] w := by
  intro os
  kernel_rfl
theorem lw_facts {w : World} {K : PySem.W.Frag} {h : Heap} {mg : Str → Option Value} {f : Addr} (X : K.In h) (G : h.Ns mainGlobals mg) (hfa : mg ("law" : Str) = some (.ref f)) (c : He.SaysD fa fn K) :
    ∃ fd : FuncData, (∀ (s : Shared) (v : Value), BindsTo s fd ⟨[v], []⟩ [("script", v)]) ∧ ∀ base : Heap, K.In base → base.Ns mainGlobals mg → FnOk R0 w K mg base L2.CX0 12 f fd ["script"] (spLw K) := by
  obtain ⟨a, fd, I, F⟩ := i_law X G c
  have e := hfa.symm.trans I.glo
  cases e
  have b := FunD.bindsA (ps := ["script"]) F fun _ _ _ _ _ _ us hl => match us, hl with | [_], _ => rfl
  refine ⟨fd, fun s v => b s [v] rfl, fun base _ _ => ?_⟩
  exact lw_ok (P := P) (n := 12) (fn_ok (f := "law") fs_i rfl I (prog_ok fs_i (all_i X G c) (free_i X G c) 11)) law_true
end PX
open PySem PySem.W PySem.Calls PyProof.Rows
theorem PySem.Challenge.cw_wholebeside_k80_whole_papers_of_points_b_holds : PySem.Challenge.rw_wholebeside_k80_whole_papers_of_points_b.Holds := by
  w_on; o_law
  refine HandSHeadRun.head_any (r := PySem.W.OpenLaw.row PySem.Challenge.rw_wholebeside_k80_whole_papers_of_points_b) (q := view (PySem.W.OpenLaw.row PySem.Challenge.rw_wholebeside_k80_whole_papers_of_points_b).prog [26]) (H := PX.hk) (ob := PX.ob) (M := 4000) (loose := ["BesideError", "InvalidTable", "is_integer", "is_natural", "are_naturals", "is_set", "is_table_of", "check_table", "is_set_below", "are_apart", "judge_points", "_law_feed", "_law_drawn", "_law_same", "_law_row", "_law_is_set", "_law_is_pair", "_law_lots", "_law_meets", "_law_bent"]) (d := HandSHeadRun.topDef (PySem.W.OpenLaw.row PySem.Challenge.rw_wholebeside_k80_whole_papers_of_points_b).prog 26) (kwd := []) PX.ob_eq
    (by kernel_rfl) (fun s => by kernel_rfl) PX.run (by kernel_rfl) (by kernel_rfl) (by kernel_rfl) (by rfl) (by first | assumption | decide +kernel) (by decide +kernel) ⟨rfl, rfl, rfl, rfl, rfl, by decide +kernel⟩ ?hw ?hc
  case hw => w_witness2
  case hc =>
    refine PX.walk_px (l := PySem.Challenge.rw_wholebeside_k80_whole_papers_of_points_b) (k := 12) rfl (by kernel_rfl) ⟨rfl, by decide, by decide⟩ ?F
    intro w mg fa h Y G hmg0
    obtain ⟨K, KX, c⟩ := Y
    have hmg : mg ("law" : PySem.Str) = some (.ref fa) := by
      have e : (HandSHeadRun.topDef (PySem.W.OpenLaw.row PySem.Challenge.rw_wholebeside_k80_whole_papers_of_points_b).prog 26).name = ("law" : PySem.Str) := by kernel_rfl
      rw [← e]
      exact hmg0
    obtain ⟨fd, hb, hF⟩ := PX.lw_facts (w := w) KX G hmg c
    exact ⟨K, fd, KX, hb, hF⟩
