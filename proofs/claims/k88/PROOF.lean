import PyProof.Rows.All
import Wide.All
import OpenK.AllK
import Wide.FinOn
import HandS.ForMost
import HandS.Deep
import HandS.Flow
import HandS.Style
import HandS.TupAny
import HandS.Wide
import HandS.Conv
import HandS.Zip
import HandS.IsInst
import KE.SortData
import KE.DataMinMax
import KE.DataAny
import KE.DataEq
import KE.DataCmp
import KE.GoesEnum
import KE.GoesMore
import KE.GoesZip
import HandS.TupMul
import KE.KTupSum
import HandS.SetFor
import HandS.TupSets
import HandS.Words
import PyProof.Rows.BitMore
import PySem.Challenge.RW_gamesweighed_k88_whole_games_as_arrows
set_option Elab.async false
set_option linter.all false
set_option maxRecDepth 1000000
set_option maxHeartbeats 4000000
/-! GCore: the pure evaluator. Values are PyData; a local that is mutated is an own slot; a draw is "for all r < n". -/
namespace G
open PySem

abbrev AV := PyData

/-- classes for isinstance -/
inductive Ty where | int | bool | str | tuple | list | dict
  deriving DecidableEq, Repr

inductive Prim where
  | add | sub | mul | fdiv | mod | pow | xor | band | bor | shl | shr | neg
  | eq | ne | lt | le | gt | ge | isin | notin | isN | notN | isB (b : Bool)
  | len | abs | max1 | min1 | max2 | min2 | sum | all | any | sorted | int1 | tupOf | lstOf
  | isi (t : Ty) | mkTup | mkLst | ix | slice (lo hi : Bool) | rev | rangeL1 | rangeL2 | sset | newD (t : Nat) | dictP | dispD
  deriving DecidableEq, Repr

/-- what a name's slot holds: nothing known, a frozen value, an own (mutable, unshared) list or dict, the cup of draws, a function of the text -/
inductive Slot where
  | none | val (v : AV) | olst (ln : Bool) (xs : List AV) | odct (ln : Bool) (t : Nat) (kvs : List (AV × AV)) | cup | fn (j : Nat)

abbrev Env := List Slot
/-- lent by a caller -/
def Slot.ln : Slot → Bool
  | .olst l _ => l
  | .odct l _ _ => l
  | .cup => true
  | _ => false

inductive SrcK where | seq | rng1 | rng2 | rng3 | enum | zip
  deriving DecidableEq, Repr

inductive Tgt where | nm (i : Nat) | tp (is : List Nat)
  deriving DecidableEq, Repr
def Tgt.slots : Tgt → List Nat
  | .nm i => [i]
  | .tp is => is

mutual
inductive E where
  | cst (v : AV)
  | var (i : Nat)
  | prim (p : Prim) (as : Es)
  | and (a b : E) | or (a b : E) | not (a : E)
  | ife (c a b : E)
  | chain (p q : Prim) (a b c : E)
  | comp (k : SrcK) (as : Es) (t : Tgt) (cs : Es) (elt : E)
  | call (f : Nat) (as : Es)
  | roll (i : Nat) (e : E)
  | disp (as : Es)
  | pop (i : Nat) | popAt (i : Nat) (e : E)
  | idx (a e : E)
inductive Es where | nil | cons (a : E) (r : Es) | pk (i : Nat) (r : Es)
end

inductive S where
  | skip | brk | cnt | stuck
  | seq (a b : S)
  | asg (t : Tgt) (e : E)
  | own (i : Nat) (e : E)
  | par (is : List (Nat × Bool)) (as : Es)
  | app (i : Nat) (e : E)
  | put (i : Nat) (k v : E)
  | ife (c : E) (a b : S)
  | whl (c : E) (b : S)
  | for_ (k : SrcK) (as : Es) (t : Tgt) (b : S)
  | ret (e : E)
  | exp (e : E)

/-! ### the primitives -/
def sz : Nat := 16777216
def intsL : List AV → Option (List Int)
  | [] => some []
  | .int i :: r => (intsL r).map (i :: ·)
  | _ :: _ => none
def boolsL : List AV → Option (List Bool)
  | [] => some []
  | .bool b :: r => (boolsL r).map (b :: ·)
  | _ :: _ => none
def big (i : Int) : Bool := decide (-(2 ^ 64) < i) && decide (i < 2 ^ 64)
def mulOk (i j : Int) : Bool := big i || big j || decide (i.natAbs.log2 + j.natAbs.log2 < 1000000)
def divOk (j : Int) : Bool := decide (0 < j) && decide (j.natAbs.log2 < 9000)
/-- items of a list or a tuple -/
def items? : AV → Option (List AV)
  | .list xs => some xs
  | .tuple xs => some xs
  | _ => none
def atL (xs : List AV) (i : Int) : Option AV := L2.atI xs i
/-- part of a sequence -/
def cut (xs : List AV) (lo hi : Option Int) : List AV := (xs.drop (HT.sIx xs.length 0 lo)).take (HT.sIx xs.length xs.length hi - HT.sIx xs.length 0 lo)
def scal : AV → Bool
  | .none | .bool _ | .int _ | .str _ => true
  | _ => false
def eqOk (d e : AV) : Bool := SeqAt.shaped d && SeqAt.shaped e
/-- == -/
def eqS : AV → AV → Option Bool
  | .int i, .int j => some (i == j)
  | d, e => if eqOk d e then some (PyData.eqv d e) else none
def small62 (i : Int) : Bool := decide (-(2 ^ 62) ≤ i) && decide (i < 2 ^ 62)
def rangeList (a : Int) (n : Nat) (c : Int) : List AV := (List.range n).map fun i => .int (a + (i : Nat) * c)
def range1 : List AV → Option (List AV)
  | [.int j] => if small62 j then some (rangeList 0 j.toNat 1) else none
  | _ => none
def range2 : List AV → Option (List AV)
  | [.int i, .int j] => if small62 i && small62 j then some (rangeList i (j - i).toNat 1) else none
  | _ => none
def range3 : List AV → Option (List AV)
  | [.int i, .int j, .int c] =>
    if decide (c ≠ 0) && decide (c.natAbs < 1073741824) && Builtin.Range.small i j c && decide (0 ≤ Builtin.Range.rangeSize i j c)
    then some (rangeList i (Builtin.Range.rangeSize i j c).toNat c) else none
  | _ => none

/-! sorting -/
def insS (le : AV → AV → Bool) (x : AV) : List AV → List AV
  | [] => [x]
  | y :: r => if le x y then x :: y :: r else y :: insS le x r
def isort (le : AV → AV → Bool) : List AV → List AV
  | [] => []
  | x :: r => insS le x (isort le r)
def avLe (x y : AV) : Bool := match x, y with
  | .int i, .int j => decide (i ≤ j)
  | _, _ => !PySem.W.dataLt y x
mutual
def sameShape : AV → AV → Bool
  | .int _, .int _ => true
  | .bool _, .bool _ => true
  | .str _, .str _ => true
  | .tuple xs, .tuple ys => sameShapes xs ys
  | _, _ => false
def sameShapes : List AV → List AV → Bool
  | [], [] => true
  | x :: xs, y :: ys => sameShape x y && sameShapes xs ys
  | _, _ => false
end
def allAlike (xs : List AV) : Bool := (match xs with
  | [] => true
  | x :: r => (x :: r).all fun y => sameShape x y) || xs.all fun x => xs.all fun y => PySem.W.alike x y
def sortable (xs : List AV) : Bool := (xs.all fun d => match d with
  | .tuple (_ :: _) => true
  | _ => false) || xs.all fun d => match d with
  | .none => false
  | .tuple _ => false
  | _ => true
def shallow (xs : List AV) : Bool := xs.all fun d => match d with
  | .int _ => true
  | d => SeqAt.shaped d
def sortedS (xs : List AV) : Option (List AV) := if allAlike xs && sortable xs && shallow xs then some (isort avLe xs) else none
/-- each once, upwards by f -/
def insK {α : Type} (f : α → Int) (x : α) : List α → List α
  | [] => [x]
  | y :: r => if f x < f y then x :: y :: r else if f y < f x then y :: insK f x r else y :: r
def sortK {α : Type} (f : α → Int) : List α → List α
  | [] => []
  | x :: r => insK f x (sortK f r)
/-- tuples of d ints in 0 .. 2^64 - 1 -/
def tupI (d : Nat) : AV → Option (List Int)
  | .tuple xs => (intsL xs).bind fun ns => if ns.length = d ∧ (ns.all fun n => decide (0 ≤ n) && decide (n < 2 ^ 64)) = true then some ns else none
  | _ => none
def tupsI (d : Nat) : List AV → Option (List (List Int))
  | [] => some []
  | x :: r => (tupI d x).bind fun ns => (tupsI d r).map (ns :: ·)
def codeI : List Int → Int
  | [] => 0
  | d :: r => d * (2 ^ 64) ^ r.length + codeI r
def ssetS (xs : List AV) : Option AV := if xs.length < 64 then (match xs with
    | .tuple ys :: _ => if ys.length = 0 then none else (tupsI ys.length xs).map fun ks => .list ((sortK codeI ks).map fun ns => .tuple (ns.map .int))
    | _ => (intsL xs).map fun ns => .list ((sortK id ns).map .int)) else none

def isTy : Ty → AV → Bool
  | .int, .int _ => true
  | .int, .bool _ => true
  | .bool, .bool _ => true
  | .str, .str _ => true
  | .tuple, .tuple _ => true
  | .list, .list _ => true
  | .dict, .dict _ => true
  | _, _ => false
def lookD (k : AV) : List (AV × AV) → Option AV
  | [] => none
  | (a, v) :: r => if PyData.eqv a k then some v else lookD k r
/-- a key of a dict: of kind 0 an int, a text; of kind 1 a tuple of these -/
def flatKey : AV → Bool
  | .int _ => true
  | .str _ => true
  | _ => false
def keyOk : Nat → AV → Bool
  | 0, k => flatKey k
  | 1, .tuple xs => xs.all flatKey
  | _, _ => false
/-- a dict as a value: its kind stands ahead of its pairs -/
def mkD (t : Nat) (kvs : List (AV × AV)) : AV := .dict ((.none, .int t) :: kvs)
def inS (x : AV) : AV → Option Bool
  | .list xs => if eqOk x (.list xs) then some (xs.any fun z => PyData.eqv z x) else none
  | .tuple xs => if eqOk x (.tuple xs) then some (xs.any fun z => PyData.eqv z x) else none
  | .dict ((_, .int t) :: kvs) => if keyOk t.toNat x then some (lookD x kvs).isSome else none
  | _ => none
def indexS (x : AV) : List AV → Nat → Option Int
  | [], _ => none
  | y :: r, n => if PyData.eqv y x then some n else indexS x r (n + 1)
def cmpI (f : Int → Int → Bool) (g : AV → AV → Bool) : AV → AV → Option AV
  | .int i, .int j => some (.bool (f i j))
  | .tuple xs, .tuple ys => if eqOk (.tuple xs) (.tuple ys) && PySem.W.alike (.tuple xs) (.tuple ys) then some (.bool (g (.tuple xs) (.tuple ys))) else none
  | _, _ => none
def fit (xs : List AV) : Option (List AV) := if xs.length ≤ sz then some xs else none
def ixS : AV → AV → Option AV
  | .list xs, .int i => atL xs i
  | .tuple xs, .int i => atL xs i
  | .dict ((_, .int t) :: kvs), k => if keyOk t.toNat k then lookD k kvs else none
  | _, _ => none
def cutS (x : AV) (lo hi : Option Int) : Option AV := match x with
  | .list xs => some (.list (cut xs lo hi))
  | .tuple xs => some (.tuple (cut xs lo hi))
  | _ => none
def addS : AV → AV → Option AV
  | .int i, .int j => some (.int (i + j))
  | .list xs, .list ys => (fit (xs ++ ys)).map .list
  | .tuple xs, .tuple ys => (fit (xs ++ ys)).map .tuple
  | _, _ => none
def mulS : AV → AV → Option AV
  | .int i, .int j => if mulOk i j then some (.int (i * j)) else none
  | .list xs, .int k => if small62 k && decide (xs.length * k.toNat ≤ sz) then some (.list (List.replicate k.toNat xs).flatten) else none
  | .tuple xs, .int k => if decide (2 ≤ k) && decide (k ≤ 1000) && !xs.isEmpty && decide (xs.length ≤ 1000) then some (.tuple (List.replicate k.toNat xs).flatten) else none
  | _, _ => none
def maxI : List Int → Option Int
  | [] => none
  | x :: r => some (r.foldl (fun m y => if y > m then y else m) x)
def minI : List Int → Option Int
  | [] => none
  | x :: r => some (r.foldl (fun m y => if y < m then y else m) x)

def putD (k v : AV) (kvs : List (AV × AV)) : List (AV × AV) :=
  if kvs.any fun p => PyData.eqv p.1 k then kvs.map fun p => if PyData.eqv p.1 k then (p.1, v) else p else kvs ++ [(k, v)]
def mergeD : List (AV × AV) → List (AV × AV) → List (AV × AV)
  | acc, [] => acc
  | acc, (k, v) :: r => mergeD (putD k v acc) r
/-- a list of pairs with flat keys -/
def pairsS : List AV → Option (List (AV × AV))
  | [] => some []
  | .tuple [k, v] :: r => if flatKey k then (pairsS r).map ((k, v) :: ·) else none
  | _ :: _ => none
/-- a display's keys and values -/
def altS : List AV → Option (List (AV × AV))
  | [] => some []
  | k :: v :: r => if flatKey k then (altS r).map ((k, v) :: ·) else none
  | _ => none

def isNonS : AV → Bool
  | .none => true
  | _ => false
def primS : Prim → List AV → Option AV
  | .add, [a, b] => addS a b
  | .sub, [.int i, .int j] => some (.int (i - j))
  | .mul, [a, b] => mulS a b
  | .fdiv, [.int i, .int j] => if divOk j then some (.int (i / j)) else none
  | .mod, [.int i, .int j] => if decide (0 < j) then some (.int (i % j)) else none
  | .pow, [.int i, .int j] => if decide (0 ≤ j) && decide (j ≤ 1000000) && decide (i.natAbs < 2 ^ 64) then some (.int (i ^ j.toNat)) else none
  | .xor, [.int i, .int j] => some (.int (Builtin.bitXor i j))
  | .band, [.int i, .int j] => some (.int (Builtin.bitAnd i j))
  | .bor, [.int i, .int j] => some (.int (Builtin.bitOr i j))
  | .shl, [.int i, .int j] => if decide (0 ≤ j) && decide (j ≤ 1000000) && decide (i.natAbs < 2 ^ 64) then some (.int (i * 2 ^ j.toNat)) else none
  | .shr, [.int i, .int j] => if decide (0 ≤ j) then some (.int (i / 2 ^ j.toNat)) else none
  | .neg, [.int i] => some (.int (-i))
  | .eq, [a, b] => (eqS a b).map .bool
  | .ne, [a, b] => (eqS a b).map fun k => .bool !k
  | .lt, [a, b] => cmpI (fun i j => decide (i < j)) PySem.W.dataLt a b
  | .le, [a, b] => cmpI (fun i j => decide (i ≤ j)) (fun x y => !PySem.W.dataLt y x) a b
  | .gt, [a, b] => cmpI (fun i j => decide (j < i)) (fun x y => PySem.W.dataLt y x) a b
  | .ge, [a, b] => cmpI (fun i j => decide (j ≤ i)) (fun x y => !PySem.W.dataLt x y) a b
  | .isin, [a, b] => (inS a b).map .bool
  | .notin, [a, b] => (inS a b).map fun k => .bool !k
  | .isN, [a] => some (.bool (isNonS a))
  | .notN, [a] => some (.bool !isNonS a)
  | .isB k, [.bool b] => some (.bool (decide (b = k)))
  | .len, [.list xs] => some (.int xs.length)
  | .len, [.tuple xs] => some (.int xs.length)
  | .abs, [.int i] => some (.int (if i < 0 then -i else i))
  | .max2, [.int i, .int j] => some (.int (if j > i then j else i))
  | .min2, [.int i, .int j] => some (.int (if j < i then j else i))
  | .max1, [a] => ((items? a).bind intsL).bind fun ns => (maxI ns).map .int
  | .min1, [a] => ((items? a).bind intsL).bind fun ns => (minI ns).map .int
  | .sum, [a] => ((items? a).bind intsL).map fun ns => .int ns.sum
  | .all, [.list xs] => (boolsL xs).map fun bs => .bool (bs.all id)
  | .any, [.list xs] => (boolsL xs).map fun bs => .bool (bs.any id)
  | .sorted, [.list xs] => (sortedS xs).map .list
  | .sset, [.list xs] => ssetS xs
  | .int1, [.int i] => some (.int i)
  | .tupOf, [.list xs] => some (.tuple xs)
  | .tupOf, [.tuple xs] => some (.tuple xs)
  | .lstOf, [.list xs] => some (.list xs)
  | .lstOf, [.tuple xs] => some (.list xs)
  | .isi t, [a] => some (.bool (isTy t a))
  | .mkTup, xs => (fit xs).map .tuple
  | .ix, [a, i] => ixS a i
  | .slice true true, [a, .int i, .int j] => cutS a (some i) (some j)
  | .slice true false, [a, .int i] => cutS a (some i) none
  | .slice false true, [a, .int j] => cutS a none (some j)
  | .slice false false, [a] => cutS a none none
  | .rev, [.list xs] => some (.list xs.reverse)
  | .newD t, [] => if t ≤ 1 then some (mkD t []) else none
  | .dictP, [.list ps] => (pairsS ps).map fun kvs => mkD 0 (mergeD [] kvs)
  | .dispD, as => (altS as).bind fun kvs => if kvs.length ≤ 15 then some (mkD 0 (mergeD [] kvs)) else none
  | .rangeL1, as => ((range1 as).bind fit).map .list
  | .rangeL2, as => ((range2 as).bind fit).map .list
  | _, _ => none

def truthy : AV → Option Bool
  | .none => some false
  | .bool b => some b
  | .int i => some (i != 0)
  | .list xs => some (!xs.isEmpty)
  | .tuple xs => some (!xs.isEmpty)
  | _ => none

/-! ### what a loop walks -/
def srcS : SrcK → List AV → Option (List AV)
  | .seq, [.list xs] => some xs
  | .seq, [.tuple xs] => some xs
  | .rng1, as => range1 as
  | .rng2, as => range2 as
  | .rng3, as => range3 as
  | .enum, [.list xs] => some (xs.zipIdx.map fun p => .tuple [.int p.2, p.1])
  | .enum, [.tuple xs] => some (xs.zipIdx.map fun p => .tuple [.int p.2, p.1])
  | .zip, [a, b] => (items? a).bind fun xs => (items? b).map fun ys => (xs.zip ys).map fun p => .tuple [p.1, p.2]
  | _, _ => none

/-! ### slots -/
def setSlot (ρ : Env) (i : Nat) (s : Slot) : Env := ρ.set i s
/-- reading an own slot as a value freezes it -/
def readVar (i : Nat) (ρ : Env) : Option (AV × Env) := match ρ[i]? with
  | some (.val v) => some (v, ρ)
  | some (.olst false xs) => some (.list xs, ρ.set i (.val (.list xs)))
  | some (.odct false t kvs) => some (mkD t kvs, ρ.set i (.val (mkD t kvs)))
  | _ => none
def peek (i : Nat) (ρ : Env) : Option AV := match ρ[i]? with
  | some (.val v) => some v
  | some (.olst _ xs) => some (.list xs)
  | some (.odct _ t kvs) => some (mkD t kvs)
  | _ => none
def setAll : List Nat → List AV → Env → Option Env
  | [], [], ρ => some ρ
  | i :: is, v :: vs, ρ => if i < ρ.length then setAll is vs (ρ.set i (.val v)) else none
  | _, _, _ => none
def assign : Tgt → AV → Env → Option Env
  | .nm i, v, ρ => if i < ρ.length then some (ρ.set i (.val v)) else none
  | .tp is, .tuple vs, ρ => setAll is vs ρ
  | _, _, _ => none
/-- a comprehension's names are its own -/
def wipeable (i : Nat) (ρ : Env) : Bool := match ρ[i]? with
  | some .none => true
  | some (.val _) => true
  | _ => false
def restore (old : Env) : List Nat → Env → Env
  | [], ρ => ρ
  | i :: is, ρ => (restore old is ρ).set i (old.getD i .none)
def wipeS : List Nat → Env → Env
  | [], ρ => ρ
  | i :: is, ρ => (wipeS is ρ).set i .none
def allB (f : Nat → Bool) : Nat → Bool
  | 0 => true
  | n + 1 => f n && allB f n
theorem allB_iff {f : Nat → Bool} : ∀ {n : Nat}, allB f n = true ↔ ∀ r, r < n → f r = true
  | 0 => by simp [allB]
  | n + 1 => by
    rw [allB, Bool.and_eq_true, allB_iff]
    constructor
    · rintro ⟨h1, h2⟩ r hr
      rcases Nat.lt_succ_iff_lt_or_eq.mp hr with h | h
      · exact h2 r h
      · rw [h]; exact h1
    · intro h
      exact ⟨h n (Nat.lt_succ_self n), fun r hr => h r (Nat.lt_succ_of_lt hr)⟩

/-! ### the evaluator -/
/-- a call: the def, the arguments' slots, what is wanted of the answer and of the arguments' slots behind it -/
abbrev Handler := Nat → List Slot → (AV → List Slot → Bool) → Bool
abbrev EK := AV → Env → Bool

/-- a comprehension's loop -/
def loopC (tg : AV → Env → Option Env) (cnd : Env → (Bool → Env → Bool) → Bool) (elt : Env → EK → Bool) (K : List AV → Env → Bool) : List AV → List AV → Env → Bool
  | [], acc, ρ => K acc ρ
  | x :: r, acc, ρ => match tg x ρ with
    | none => false
    | some ρ1 => cnd ρ1 fun b ρ2 => if b then elt ρ2 fun y ρ3 => loopC tg cnd elt K r (acc ++ [y]) ρ3 else loopC tg cnd elt K r acc ρ2

/-- the args of a call as slots: a value, or an own slot lent -/
def lend (i : Nat) (ρ : Env) : Option Slot := match ρ[i]? with
  | some (.olst _ xs) => some (.olst true xs)
  | some (.odct _ t kvs) => some (.odct true t kvs)
  | some .cup => some .cup
  | _ => none
def sameKind : Slot → Slot → Bool
  | .olst _ _, .olst _ _ => true
  | .odct _ t _, .odct _ u _ => t == u
  | .cup, .cup => true
  | _, _ => false

mutual
def Es.lent : Es → List (Option Nat)
  | .nil => []
  | .cons _ r => Option.none :: r.lent
  | .pk i r => some i :: r.lent
end
def lentNo : List (Option Nat) → List Nat
  | [] => []
  | some i :: r => i :: lentNo r
  | Option.none :: r => lentNo r
/-- what was lent comes back -/
def giveBack : List (Option Nat) → List Slot → Env → Option Env
  | [], [], ρ => some ρ
  | Option.none :: r, _ :: ss, ρ => giveBack r ss ρ
  | some i :: r, s :: ss, ρ => match s, ρ[i]? with
    | .olst _ xs, some (.olst l _) => giveBack r ss (ρ.set i (.olst l xs))
    | .odct _ t kvs, some (.odct l _ _) => giveBack r ss (ρ.set i (.odct l t kvs))
    | .cup, some .cup => giveBack r ss ρ
    | _, _ => Option.none
  | _, _, _ => Option.none

/-- prims whose sequence arguments may be own slots -/
def Prim.pkOk : Prim → Bool
  | .add | .eq | .ne | .isin | .notin | .len | .max1 | .min1 | .sum | .all | .any | .sorted | .sset | .tupOf | .lstOf | .ix | .slice _ _ | .rev | .isi _ => true
  | _ => false

def isOl (i : Nat) (ρ : Env) : Bool := match ρ[i]? with
  | some (.olst _ _) => true
  | _ => false
def isCup (i : Nat) (ρ : Env) : Bool := match ρ[i]? with
  | some .cup => true
  | _ => false
mutual
def wpE (C : Handler) : E → Env → EK → Bool
  | .cst v, ρ, K => K v ρ
  | .var i, ρ, K => match readVar i ρ with
    | some (v, ρ') => K v ρ'
    | none => false
  | .prim p as, ρ, K => wpEs C p.pkOk as ρ fun vs ρ1 => match primS p vs with
    | some v => K v ρ1
    | none => false
  | .and a b, ρ, K => wpE C a ρ fun v ρ1 => match truthy v with
    | some true => wpE C b ρ1 K
    | some false => K v ρ1
    | none => false
  | .or a b, ρ, K => wpE C a ρ fun v ρ1 => match truthy v with
    | some true => K v ρ1
    | some false => wpE C b ρ1 K
    | none => false
  | .not a, ρ, K => wpE C a ρ fun v ρ1 => match truthy v with
    | some b => K (.bool !b) ρ1
    | none => false
  | .ife c a b, ρ, K => wpE C c ρ fun v ρ1 => match truthy v with
    | some true => wpE C a ρ1 K
    | some false => wpE C b ρ1 K
    | none => false
  | .chain p q a b c, ρ, K => wpE C a ρ fun x ρ1 => wpE C b ρ1 fun y ρ2 => match primS p [x, y] with
    | some (.bool true) => wpE C c ρ2 fun z ρ3 => match primS q [y, z] with
      | some v => K v ρ3
      | none => false
    | some (.bool false) => K (.bool false) ρ2
    | _ => false
  | .comp k as t cs elt, ρ, K => wpEs C false as ρ fun vs ρ1 => match srcS k vs with
    | none => false
    | some items => if t.slots.all (fun i => wipeable i ρ1) && decide (items.length ≤ sz) then
        loopC (fun x ρ => assign t x (wipeS t.slots ρ)) (fun ρ K => wpCs C cs ρ K) (fun ρ K => wpE C elt ρ K) (fun ys ρ2 => K (.list ys) (restore ρ1 t.slots ρ2)) items [] ρ1
      else false
  | .call f as, ρ, K => wpArgs C as ρ fun ss ρ1 => if (lentNo as.lent).Nodup then C f ss fun v outs => match giveBack as.lent outs ρ1 with
      | some ρ2 => K v ρ2
      | none => false
    else false
  | .roll i e, ρ, K => if isCup i ρ then wpE C e ρ fun v ρ1 => match v, isCup i ρ1 with
    | .int n, true => decide (0 < n) && decide (n < 2 ^ 200) && allB (fun r => K (.int r) ρ1) n.toNat
    | _, _ => false
    else false
  | .disp as, ρ, K => wpEs C false as ρ fun vs ρ1 => match fit vs with
    | some vs => K (.list vs) ρ1
    | none => false
  | .pop i, ρ, K => match ρ[i]? with
    | some (.olst l xs) => match xs.getLast? with
      | some v => K v (ρ.set i (.olst l xs.dropLast))
      | none => false
    | _ => false
  | .popAt i e, ρ, K => if isOl i ρ then wpE C e ρ fun v ρ1 => match v, ρ1[i]? with
    | .int k, some (.olst l xs) => match (if xs.length ≤ sz then L2.ixN xs.length k else none) with
      | some j => match xs[j]? with
        | some y => K y (ρ1.set i (.olst l (xs.eraseIdx j)))
        | none => false
      | none => false
    | _, _ => false
    else false
  | .idx a e, ρ, K => wpE C a ρ fun v ρ1 => match v with
    | .list xs => wpE C e ρ1 fun x ρ2 => if eqOk x (.list xs) then (match indexS x xs 0 with
      | some n => K (.int n) ρ2
      | none => false) else false
    | _ => false
/-- arguments of a primitive; pk: own slots may be looked at -/
def wpEs (C : Handler) (pk : Bool) : Es → Env → (List AV → Env → Bool) → Bool
  | .nil, ρ, K => K [] ρ
  | .cons a r, ρ, K => wpE C a ρ fun v ρ1 => wpEs C pk r ρ1 fun vs ρ2 => K (v :: vs) ρ2
  | .pk i r, ρ, K => if pk && (peek i ρ).isSome then wpEs C pk r ρ fun vs ρ2 => match peek i ρ2 with
      | some v => K (v :: vs) ρ2
      | none => false
    else false
/-- arguments of a def -/
def wpArgs (C : Handler) : Es → Env → (List Slot → Env → Bool) → Bool
  | .nil, ρ, K => K [] ρ
  | .cons a r, ρ, K => wpE C a ρ fun v ρ1 => wpArgs C r ρ1 fun ss ρ2 => K (.val v :: ss) ρ2
  | .pk i r, ρ, K => if (lend i ρ).isSome then wpArgs C r ρ fun ss ρ2 => match lend i ρ2 with
      | some s => K (s :: ss) ρ2
      | none => false
    else false
/-- a comprehension's tests -/
def wpCs (C : Handler) : Es → Env → (Bool → Env → Bool) → Bool
  | .nil, ρ, K => K true ρ
  | .cons a r, ρ, K => wpE C a ρ fun v ρ1 => match truthy v with
    | some true => wpCs C r ρ1 K
    | some false => K false ρ1
    | none => false
  | .pk _ _, _, _ => false
end

structure Ks where
  nx : Env → Bool
  rt : AV → Env → Bool
  bk : Env → Bool := fun _ => false
  ct : Env → Bool := fun _ => false

def whileN (c : Env → (Bool → Env → Bool) → Bool) (body : Env → Ks → Bool) (D : Ks) : Nat → Env → Bool
  | 0, _ => false
  | n + 1, ρ => c ρ fun b ρ1 => if b then body ρ1 { nx := whileN c body D n, ct := whileN c body D n, bk := D.nx, rt := D.rt } else D.nx ρ1
def forN (tg : AV → Env → Option Env) (body : Env → Ks → Bool) (D : Ks) : List AV → Env → Bool
  | [], ρ => D.nx ρ
  | x :: r, ρ => match tg x ρ with
    | none => false
    | some ρ1 => body ρ1 { nx := forN tg body D r, ct := forN tg body D r, bk := D.nx, rt := D.rt }
/-- is the value of e a new object -/
def Prim.fresh : Prim → Bool
  | .lstOf | .sorted | .rangeL1 | .rangeL2 | .sset | .newD _ | .dictP | .dispD | .mkTup => true
  | _ => false
def E.fresh : E → Bool
  | .prim p _ => p.fresh
  | .comp .. => true
  | .disp _ => true
  | _ => false
def ownOf : AV → Option Slot
  | .list xs => some (.olst false xs)
  | .dict ((_, .int t) :: kvs) => some (.odct false t.toNat kvs)
  | _ => none
def setPar : List (Nat × Bool) → List AV → Env → Option Env
  | [], [], ρ => some ρ
  | (i, o) :: is, v :: vs, ρ => if i < ρ.length then (if o then (ownOf v).bind fun s => setPar is vs (ρ.set i s) else setPar is vs (ρ.set i (.val v))) else none
  | _, _, _ => none
def Es.freshAt : Es → List Bool
  | .nil => []
  | .cons a r => a.fresh :: r.freshAt
  | .pk _ r => false :: r.freshAt
def parOk (is : List (Nat × Bool)) (as : Es) : Bool := ((is.zip as.freshAt).all fun p => !p.1.2 || p.2) && decide (is.length = as.freshAt.length) && (decide ((is.map (·.1)).Nodup) && decide (is.length ≤ 16))

def wpS (C : Handler) (N : Nat) : S → Env → Ks → Bool
  | .skip, ρ, D => D.nx ρ
  | .brk, ρ, D => D.bk ρ
  | .cnt, ρ, D => D.ct ρ
  | .stuck, _, _ => false
  | .seq a b, ρ, D => wpS C N a ρ { D with nx := fun ρ1 => wpS C N b ρ1 D }
  | .asg t e, ρ, D => wpE C e ρ fun v ρ1 => match assign t v ρ1 with
    | some ρ2 => D.nx ρ2
    | none => false
  | .own i e, ρ, D => if e.fresh then wpE C e ρ fun v ρ1 => match ownOf v with
      | some s => if i < ρ1.length then D.nx (ρ1.set i s) else false
      | none => false
    else false
  | .par is as, ρ, D => if parOk is as then wpEs C false as ρ fun vs ρ1 => match setPar is vs ρ1 with
      | some ρ2 => D.nx ρ2
      | none => false
    else false
  | .app i e, ρ, D => if isOl i ρ then wpE C e ρ fun v ρ1 => match ρ1[i]? with
    | some (.olst l xs) => if xs.length < sz then D.nx (ρ1.set i (.olst l (xs ++ [v]))) else false
    | _ => false
    else false
  | .put i ke e, ρ, D => if (peek i ρ).isSome then wpE C e ρ fun v ρ1 => wpE C ke ρ1 fun k ρ2 => match ρ2[i]?, k with
    | some (.olst l xs), .int j => match L2.ixN xs.length j with
      | some n => D.nx (ρ2.set i (.olst l (xs.set n v)))
      | none => false
    | some (.odct l t kvs), k => if keyOk t k && (t == 0 || ke.fresh) && decide (kvs.length < sz) then D.nx (ρ2.set i (.odct l t (putD k v kvs))) else false
    | _, _ => false
    else false
  | .ife c a b, ρ, D => wpE C c ρ fun v ρ1 => match truthy v with
    | some true => wpS C N a ρ1 D
    | some false => wpS C N b ρ1 D
    | none => false
  | .whl c b, ρ, D => whileN (fun ρ K => wpE C c ρ fun v ρ1 => match truthy v with
      | some k => K k ρ1
      | none => false) (fun ρ D => wpS C N b ρ D) D N ρ
  | .for_ k as t b, ρ, D => wpEs C false as ρ fun vs ρ1 => match srcS k vs with
    | some items => forN (assign t) (fun ρ D => wpS C N b ρ D) D items ρ1
    | none => false
  | .ret e, ρ, D => wpE C e ρ D.rt
  | .exp e, ρ, D => wpE C e ρ fun _ ρ1 => D.nx ρ1

structure Fn where
  ar : Nat
  ns : Nat
  lent : List Nat
  body : S
/-- the slots that a statement binds -/
def S.sets : S → List Nat
  | .seq a b => a.sets ++ b.sets
  | .asg t _ => t.slots
  | .own i _ => [i]
  | .par is _ => is.map (·.1)
  | .ife _ a b => a.sets ++ b.sets
  | .whl _ b => b.sets
  | .for_ _ _ t b => t.slots ++ b.sets
  | _ => []
def Fn.ok (d : Fn) : Bool := d.lent.all fun i => !d.body.sets.contains i
/-- only what the def takes as lent is lent -/
def lentOk (d : Fn) : Nat → List Slot → Bool
  | _, [] => true
  | i, .val _ :: r => lentOk d (i + 1) r
  | i, _ :: r => d.lent.contains i && lentOk d (i + 1) r

/-- the lent slots behind the call, the others as they came -/
def outs : List Slot → Env → Option (List Slot)
  | [], _ => some []
  | .val v :: ss, _ :: ρ => (outs ss ρ).map (Slot.val v :: ·)
  | s :: ss, t :: ρ => if sameKind s t then (outs ss ρ).map (t :: ·) else none
  | _, _ => none
def wpF (P : List Fn) (N : Nat) : Nat → Handler
  | 0 => fun _ _ _ => false
  | k + 1 => fun f args K => match P[f]? with
    | none => false
    | some d => if args.length = d.ar ∧ d.ar ≤ d.ns ∧ lentOk d 0 args = true then
        wpS (wpF P N k) N d.body (args ++ List.replicate (d.ns - d.ar) .none)
          { nx := fun ρ => match outs args ρ with
              | some os => K .none os
              | none => false
            rt := fun v ρ => match outs args ρ with
              | some os => K v os
              | none => false }
      else false
end G
namespace G
open PySem PySem.Spec PyProof.Rows L2

abbrev St := L2.St
def keyV : Key → AV
  | .inl i => .int i
  | .inr x => .str x

mutual
/-- the value v stands for d; nothing of it lies at an address in A -/
inductive RV (K : PySem.W.Frag) (A : Addr → Prop) (H : Hp) : AV → V → Prop
  | non : RV K A H .none .non
  | bl (b : Bool) : RV K A H (.bool b) (.bl b)
  | int (i : Int) : RV K A H (.int i) (.int i)
  | str (x : Str) : RV K A H (.str x) (.str x)
  | lst {a : Addr} {xs : List V} {ds : List AV} : H a = some (.lst xs) → ¬ A a → RVs K A H ds xs → RV K A H (.list ds) (.ref a)
  | tup {a : Addr} {xs : List V} {ds : List AV} : H a = some (.tup xs) → ¬ A a → RVs K A H ds xs → RV K A H (.tuple ds) (.ref a)
  | tupK {a : Addr} {o : Obj} {its : Array Value} {n : Nat} {xs : List V} {ds : List AV} : K.lookup a = some o → o.cls = .type "tuple" → o.data = .seq its n → its.size ≤ sizeLine → Vals xs its.toList →
      RVs K A H ds xs → RV K A H (.tuple ds) (.ref a)
  | dK {a : Addr} {kvs : List (Key × V)} {ds : List (AV × AV)} : H a = some (.dK kvs) → ¬ A a → RK K A H ds kvs → RV K A H (.dict ((.none, .int 0) :: ds)) (.ref a)
  | dT {a : Addr} {kvs : List (List Key × V)} {ds : List (AV × AV)} : H a = some (.dT kvs) → ¬ A a → RT K A H ds kvs → RV K A H (.dict ((.none, .int 1) :: ds)) (.ref a)
inductive RVs (K : PySem.W.Frag) (A : Addr → Prop) (H : Hp) : List AV → List V → Prop
  | nil : RVs K A H [] []
  | cons {d : AV} {ds : List AV} {v : V} {vs : List V} : RV K A H d v → RVs K A H ds vs → RVs K A H (d :: ds) (v :: vs)
inductive RK (K : PySem.W.Frag) (A : Addr → Prop) (H : Hp) : List (AV × AV) → List (Key × V) → Prop
  | nil : RK K A H [] []
  | cons {k : Key} {d : AV} {ds : List (AV × AV)} {v : V} {vs : List (Key × V)} : RV K A H d v → RK K A H ds vs → RK K A H ((keyV k, d) :: ds) ((k, v) :: vs)
inductive RT (K : PySem.W.Frag) (A : Addr → Prop) (H : Hp) : List (AV × AV) → List (List Key × V) → Prop
  | nil : RT K A H [] []
  | cons {k : List Key} {d : AV} {ds : List (AV × AV)} {v : V} {vs : List (List Key × V)} : RV K A H d v → RT K A H ds vs → RT K A H ((.tuple (k.map keyV), d) :: ds) ((k, v) :: vs)
end

section
variable {K : PySem.W.Frag} {A A' : Addr → Prop} {H H' : Hp}
mutual
theorem RV.mono (h : ∀ a x, H a = some x → ¬ A a → H' a = some x ∧ ¬ A' a) {d : AV} {v : V} (r : RV K A H d v) : RV K A' H' d v := by
  cases r with
  | non => exact .non
  | bl b => exact .bl b
  | int i => exact .int i
  | str x => exact .str x
  | lst e n rs => exact .lst (h _ _ e n).1 (h _ _ e n).2 (RVs.mono h rs)
  | tup e n rs => exact .tup (h _ _ e n).1 (h _ _ e n).2 (RVs.mono h rs)
  | tupK e1 e2 e3 e4 e5 rs => exact .tupK e1 e2 e3 e4 e5 (RVs.mono h rs)
  | dK e n rs => exact .dK (h _ _ e n).1 (h _ _ e n).2 (RK.mono h rs)
  | dT e n rs => exact .dT (h _ _ e n).1 (h _ _ e n).2 (RT.mono h rs)
theorem RVs.mono (h : ∀ a x, H a = some x → ¬ A a → H' a = some x ∧ ¬ A' a) {d : List AV} {v : List V} (r : RVs K A H d v) : RVs K A' H' d v := by
  cases r with
  | nil => exact .nil
  | cons a b => exact .cons (RV.mono h a) (RVs.mono h b)
theorem RK.mono (h : ∀ a x, H a = some x → ¬ A a → H' a = some x ∧ ¬ A' a) {d : List (AV × AV)} {v : List (Key × V)} (r : RK K A H d v) : RK K A' H' d v := by
  cases r with
  | nil => exact .nil
  | cons a b => exact .cons (RV.mono h a) (RK.mono h b)
theorem RT.mono (h : ∀ a x, H a = some x → ¬ A a → H' a = some x ∧ ¬ A' a) {d : List (AV × AV)} {v : List (List Key × V)} (r : RT K A H d v) : RT K A' H' d v := by
  cases r with
  | nil => exact .nil
  | cons a b => exact .cons (RV.mono h a) (RT.mono h b)
end

mutual
theorem RV.dp {d : AV} {v : V} (r : RV K A H d v) (hs : d.canLay0 = true) : Dp K H v d := by
  cases r with
  | non => exact .non
  | bl b => exact .bl b
  | int i => exact .int i
  | str x => exact .str x
  | lst e n rs => exact .lst (.inl (.inl e)) (RVs.dp rs (by simpa [PyData.canLay0] using hs))
  | tup e n rs => exact .tup (.inl (.inl e)) (RVs.dp rs (by simpa [PyData.canLay0] using hs))
  | tupK e1 e2 e3 e4 e5 rs => exact .tup (.inr ⟨_, _, _, e1, e2, e3, e4, e5⟩) (RVs.dp rs (by simpa [PyData.canLay0] using hs))
  | dK e n rs => simp [PyData.canLay0] at hs
  | dT e n rs => simp [PyData.canLay0] at hs
theorem RVs.dp {ds : List AV} {vs : List V} (r : RVs K A H ds vs) (hs : PyData.canLayAll0 ds = true) : DpAll K H vs ds := by
  cases r with
  | nil => exact .nil
  | cons a b =>
    simp only [PyData.canLayAll0, Bool.and_eq_true] at hs
    exact .cons (RV.dp a hs.1) (RVs.dp b hs.2)
end
theorem RVs.length : ∀ {ds : List AV} {vs : List V}, RVs K A H ds vs → ds.length = vs.length
  | [], _, h => by cases h; rfl
  | d :: ds, _, h => by
    cases h with
    | cons a b => simp [RVs.length b]
theorem RVs.get : ∀ {ds : List AV} {vs : List V} {i : Nat} {d : AV}, RVs K A H ds vs → ds[i]? = some d → ∃ v, vs[i]? = some v ∧ RV K A H d v
  | [], _, _, _, _, e => by simp at e
  | d :: ds, _, 0, _, h, e => by
    cases h with
    | cons a b => simp at e; subst e; exact ⟨_, rfl, a⟩
  | d :: ds, _, i + 1, _, h, e => by
    cases h with
    | cons a b =>
      obtain ⟨v, h1, h2⟩ := RVs.get (i := i) b (by simpa using e)
      exact ⟨v, by simpa using h1, h2⟩
theorem RVs.append : ∀ {ds es : List AV} {vs us : List V}, RVs K A H ds vs → RVs K A H es us → RVs K A H (ds ++ es) (vs ++ us)
  | [], _, _, _, h, h' => by cases h; exact h'
  | d :: ds, _, _, _, h, h' => by
    cases h with
    | cons a b => exact .cons a (RVs.append b h')
theorem RVs.take : ∀ {ds : List AV} {vs : List V} (n : Nat), RVs K A H ds vs → RVs K A H (ds.take n) (vs.take n)
  | _, _, 0, _ => by simpa using RVs.nil
  | [], _, _ + 1, h => by cases h; exact .nil
  | d :: ds, _, n + 1, h => by
    cases h with
    | cons a b => exact .cons a (RVs.take n b)
theorem RVs.drop : ∀ {ds : List AV} {vs : List V} (n : Nat), RVs K A H ds vs → RVs K A H (ds.drop n) (vs.drop n)
  | _, _, 0, h => by simpa using h
  | [], _, _ + 1, h => by cases h; exact .nil
  | d :: ds, _, n + 1, h => by
    cases h with
    | cons a b => exact RVs.drop n b
theorem RVs.set {d : AV} {v : V} (hd : RV K A H d v) : ∀ {ds : List AV} {vs : List V} (n : Nat), RVs K A H ds vs → RVs K A H (ds.set n d) (vs.set n v)
  | [], _, _, h => by cases h; exact .nil
  | e :: ds, _, 0, h => by
    cases h with
    | cons a b => exact .cons hd b
  | e :: ds, _, n + 1, h => by
    cases h with
    | cons a b => exact .cons a (RVs.set hd n b)
theorem RVs.eraseIdx : ∀ {ds : List AV} {vs : List V} (n : Nat), RVs K A H ds vs → RVs K A H (ds.eraseIdx n) (vs.eraseIdx n)
  | [], _, _, h => by cases h; exact .nil
  | e :: ds, _, 0, h => by
    cases h with
    | cons a b => exact b
  | e :: ds, _, n + 1, h => by
    cases h with
    | cons a b => exact .cons a (RVs.eraseIdx n b)
theorem RVs.dropLast : ∀ {ds : List AV} {vs : List V}, RVs K A H ds vs → RVs K A H ds.dropLast vs.dropLast := fun {ds vs} h => by
  rw [List.dropLast_eq_take, List.dropLast_eq_take, h.length]
  exact h.take _
theorem RVs.reverse : ∀ {ds : List AV} {vs : List V}, RVs K A H ds vs → RVs K A H ds.reverse vs.reverse
  | [], _, h => by cases h; exact .nil
  | e :: ds, _, h => by
    cases h with
    | cons a b =>
      rw [List.reverse_cons, List.reverse_cons]
      exact (RVs.reverse b).append (.cons a .nil)
theorem RVs.ints : ∀ {ds : List AV} {vs : List V} {ns : List Int}, RVs K A H ds vs → intsL ds = some ns → ds = ns.map PyData.int ∧ vs = ns.map V.int
  | [], _, _, h, e => by cases h; cases e; exact ⟨rfl, rfl⟩
  | d :: ds, _, ns, h, e => by
    cases h with
    | cons a b =>
      cases d with
      | int i =>
        simp only [intsL] at e
        cases q : intsL ds with
        | none => rw [q] at e; cases e
        | some ms =>
          rw [q] at e; cases e
          cases a
          obtain ⟨e1, e2⟩ := RVs.ints b q
          exact ⟨by rw [e1]; rfl, by rw [e2]; rfl⟩
      | _ => simp [intsL] at e
theorem RVs.bools : ∀ {ds : List AV} {vs : List V} {ns : List Bool}, RVs K A H ds vs → boolsL ds = some ns → vs = ns.map V.bl
  | [], _, _, h, e => by cases h; cases e; rfl
  | d :: ds, _, ns, h, e => by
    cases h with
    | cons a b =>
      cases d with
      | bool i =>
        simp only [boolsL] at e
        cases q : boolsL ds with
        | none => rw [q] at e; cases e
        | some ms =>
          rw [q] at e; cases e
          cases a
          rw [RVs.bools b q]; rfl
      | _ => simp [boolsL] at e
theorem RVs.ofInts : ∀ (ns : List Int), RVs K A H (ns.map PyData.int) (ns.map V.int)
  | [] => .nil
  | n :: r => .cons (.int n) (RVs.ofInts r)

/-- what may be read as d: d's value, or an own list or dict with d's content -/
inductive RVp (K : PySem.W.Frag) (A : Addr → Prop) (H : Hp) : AV → V → Prop
  | val {d : AV} {v : V} : RV K A H d v → RVp K A H d v
  | lst {a : Addr} {xs : List V} {ds : List AV} : H a = some (.lst xs) → RVs K A H ds xs → RVp K A H (.list ds) (.ref a)
  | dK {a : Addr} {kvs : List (Key × V)} {ds : List (AV × AV)} : H a = some (.dK kvs) → RK K A H ds kvs → RVp K A H (.dict ((.none, .int 0) :: ds)) (.ref a)
  | dT {a : Addr} {kvs : List (List Key × V)} {ds : List (AV × AV)} : H a = some (.dT kvs) → RT K A H ds kvs → RVp K A H (.dict ((.none, .int 1) :: ds)) (.ref a)
theorem RVp.list {ds : List AV} {v : V} (r : RVp K A H (.list ds) v) : ∃ a xs, v = .ref a ∧ H a = some (.lst xs) ∧ RVs K A H ds xs := by
  cases r with
  | val r => cases r with
    | lst e n rs => exact ⟨_, _, rfl, e, rs⟩
  | lst e rs => exact ⟨_, _, rfl, e, rs⟩
theorem RVp.tuple {ds : List AV} {v : V} (r : RVp K A H (.tuple ds) v) : RV K A H (.tuple ds) v := by
  cases r with
  | val r => exact r
theorem RV.tuple {ds : List AV} {v : V} (r : RV K A H (.tuple ds) v) : ∃ a xs, v = .ref a ∧ SqT K H a xs ∧ RVs K A H ds xs := by
  cases r with
  | tup e n rs => exact ⟨_, _, rfl, .inl (.inl e), rs⟩
  | tupK e1 e2 e3 e4 e5 rs => exact ⟨_, _, rfl, .inr ⟨_, _, _, e1, e2, e3, e4, e5⟩, rs⟩
theorem RVp.int {i : Int} {v : V} (r : RVp K A H (.int i) v) : v = .int i := by
  cases r with
  | val r => cases r; rfl
theorem RVp.dp {d : AV} {v : V} (r : RVp K A H d v) (hs : d.canLay0 = true) : Dp K H v d := by
  cases r with
  | val r => exact r.dp hs
  | lst e rs => exact .lst (.inl (.inl e)) (rs.dp (by simpa [PyData.canLay0] using hs))
  | dK e rs => simp [PyData.canLay0] at hs
  | dT e rs => simp [PyData.canLay0] at hs
theorem RVp.mono (h : ∀ a x, H a = some x → ¬ A a → H' a = some x ∧ ¬ A' a) {d : AV} {v : V} (r : RVp K A H d v) (hl : ∀ a x, v = .ref a → H a = some x → H' a = some x) : RVp K A' H' d v := by
  cases r with
  | val r => exact .val (r.mono h)
  | lst e rs => exact .lst (hl _ _ rfl e) (rs.mono h)
  | dK e rs => exact .dK (hl _ _ rfl e) (rs.mono h)
  | dT e rs => exact .dT (hl _ _ rfl e) (rs.mono h)

/-- the content of an object -/
inductive Cont (K : PySem.W.Frag) (A : Addr → Prop) (H : Hp) : AV → HO → Prop
  | lst {xs : List V} {ds : List AV} : RVs K A H ds xs → Cont K A H (.list ds) (.lst xs)
  | tup {xs : List V} {ds : List AV} : RVs K A H ds xs → Cont K A H (.tuple ds) (.tup xs)
  | dK {kvs : List (Key × V)} {ds : List (AV × AV)} : RK K A H ds kvs → Cont K A H (.dict ((.none, .int 0) :: ds)) (.dK kvs)
  | dT {kvs : List (List Key × V)} {ds : List (AV × AV)} : RT K A H ds kvs → Cont K A H (.dict ((.none, .int 1) :: ds)) (.dT kvs)
theorem Cont.mono (h : ∀ a x, H a = some x → ¬ A a → H' a = some x ∧ ¬ A' a) {d : AV} {o : HO} (r : Cont K A H d o) : Cont K A' H' d o := by
  cases r with
  | lst rs => exact .lst (rs.mono h)
  | tup rs => exact .tup (rs.mono h)
  | dK rs => exact .dK (rs.mono h)
  | dT rs => exact .dT (rs.mono h)
theorem Cont.rv {d : AV} {o : HO} {a : Addr} (r : Cont K A H d o) (e : H a = some o) (n : ¬ A a) : RV K A H d (.ref a) := by
  cases r with
  | lst rs => exact .lst e n rs
  | tup rs => exact .tup e n rs
  | dK rs => exact .dK e n rs
  | dT rs => exact .dT e n rs
end

/-! ### slots and frames -/
/-- the content of an own slot -/
inductive OwnC (K : PySem.W.Frag) (A : Addr → Prop) (H : Hp) : Slot → HO → Prop
  | lst {l : Bool} {xs : List V} {ds : List AV} : RVs K A H ds xs → OwnC K A H (.olst l ds) (.lst xs)
  | dK {l : Bool} {kvs : List (Key × V)} {ds : List (AV × AV)} : RK K A H ds kvs → OwnC K A H (.odct l 0 ds) (.dK kvs)
  | dT {l : Bool} {kvs : List (List Key × V)} {ds : List (AV × AV)} : RT K A H ds kvs → OwnC K A H (.odct l 1 ds) (.dT kvs)
  | cup {c0 c1 : Int} : 0 ≤ c0 → 0 ≤ c1 → c1 < 2 ^ 32 → OwnC K A H .cup (.lst [.int c0, .int c1])
theorem OwnC.mono {K : PySem.W.Frag} {A A' : Addr → Prop} {H H' : Hp} (h : ∀ a x, H a = some x → ¬ A a → H' a = some x ∧ ¬ A' a) {s : Slot} {o : HO} (r : OwnC K A H s o) : OwnC K A' H' s o := by
  cases r with
  | lst rs => exact .lst (rs.mono h)
  | dK rs => exact .dK (rs.mono h)
  | dT rs => exact .dT (rs.mono h)
  | cup a b c => exact .cup a b c
inductive SlotR (K : PySem.W.Frag) (A : Addr → Prop) (H : Hp) : Slot → Option (Option V) → Option Addr → Prop
  | none {s : Option (Option V)} : SlotR K A H .none s Option.none
  | val {d : AV} {v : V} : RV K A H d v → SlotR K A H (.val d) (some (some v)) Option.none
  | own {s : Slot} {a : Addr} {o : HO} : H a = some o → OwnC K A H s o → SlotR K A H s (some (some (.ref a))) (some a)
theorem SlotR.mono {K : PySem.W.Frag} {A A' : Addr → Prop} {H H' : Hp} (h : ∀ a x, H a = some x → ¬ A a → H' a = some x ∧ ¬ A' a) {s : Slot} {v : Option (Option V)} {oa : Option Addr} (r : SlotR K A H s v oa)
    (hl : ∀ a x, oa = some a → H a = some x → H' a = some x) : SlotR K A' H' s v oa := by
  cases r with
  | none => exact .none
  | val r => exact .val (r.mono h)
  | own e c => exact .own (hl _ _ rfl e) (c.mono h)

/-- what values must not lie at: the addresses B of whoever is around, and the frame's own ones -/
def Av (B : Addr → Prop) (o : Nat → Option Addr) : Addr → Prop := fun a => B a ∨ ∃ i, o i = some a

structure Rep (K : PySem.W.Frag) (B : Addr → Prop) (o : Nat → Option Addr) (σ : St) (H : Hp) (ρ : Env) : Prop where
  len : ρ.length = σ.length
  slot : ∀ (i : Nat) (s : Slot), ρ[i]? = some s → SlotR K (Av B o) H s σ[i]? (o i)
  out : ∀ i, ρ.length ≤ i → o i = none
  inj : ∀ i j a, o i = some a → o j = some a → i = j
  low : ∀ a, B a → H a ≠ none
  free : ∀ i s a, ρ[i]? = some s → o i = some a → s.ln = false → ¬ B a
/-- what may have changed: the frame's own objects; W: the slots that were bound -/
structure Ext (W : Nat → Prop) (o : Nat → Option Addr) (H : Hp) (o' : Nat → Option Addr) (H' : Hp) : Prop where
  keep : ∀ a x, H a = some x → (∀ i, o i ≠ some a) → H' a = some x
  there : ∀ a, H a ≠ none → H' a ≠ none
  own : ∀ i a, o' i = some a → o i = some a ∨ (W i ∧ H a = none)
abbrev Ext0 := Ext fun _ => False

section
variable {K : PySem.W.Frag} {B : Addr → Prop} {W W' : Nat → Prop} {o o1 o2 o' : Nat → Option Addr} {H H1 H2 H' : Hp} {σ σ' : St} {ρ ρ' : Env}
theorem Ext.refl : Ext W o H o H := ⟨fun _ _ e _ => e, fun _ h => h, fun _ _ e => .inl e⟩
theorem Ext.trans (a : Ext W o H o1 H1) (b : Ext W o1 H1 o2 H2) : Ext W o H o2 H2 where
  keep := fun c x e n => b.keep c x (a.keep c x e n) fun i q => by
    rcases a.own i c q with z | ⟨_, z⟩
    · exact n i z
    · rw [e] at z; cases z
  there := fun c h => b.there c (a.there c h)
  own := fun i c q => by
    rcases b.own i c q with z | ⟨w, z⟩
    · exact a.own i c z
    · refine .inr ⟨w, ?_⟩
      cases e : H c with
      | none => rfl
      | some x => exact absurd z (a.there c (by rw [e]; simp))
theorem Ext.weak (a : Ext W o H o1 H1) (h : ∀ i, W i → W' i) : Ext W' o H o1 H1 := ⟨a.keep, a.there, fun i c q => (a.own i c q).imp id fun z => ⟨h i z.1, z.2⟩⟩
theorem Ext.of0 (a : Ext0 o H o1 H1) : Ext W o H o1 H1 := a.weak fun _ z => z.elim
/-- values stay -/
theorem Ext.stay (a : Ext W o H o' H') : ∀ b x, H b = some x → ¬ Av B o b → H' b = some x ∧ ¬ Av B o' b := fun b x e n =>
  ⟨a.keep b x e fun i q => n (.inr ⟨i, q⟩), fun z => by
    rcases z with z | ⟨i, z⟩
    · exact n (.inl z)
    · rcases a.own i b z with q | ⟨_, q⟩
      · exact n (.inr ⟨i, q⟩)
      · rw [e] at q; cases q⟩
theorem Ext.rv (a : Ext W o H o' H') {d : AV} {v : V} (r : RV K (Av B o) H d v) : RV K (Av B o') H' d v := r.mono a.stay
theorem Ext.rvs (a : Ext W o H o' H') {d : List AV} {v : List V} (r : RVs K (Av B o) H d v) : RVs K (Av B o') H' d v := r.mono a.stay
theorem Rep.ownAt (r : Rep K B o σ H ρ) {i : Nat} {a : Addr} (e : o i = some a) : ∃ s x, ρ[i]? = some s ∧ σ[i]? = some (some (.ref a)) ∧ H a = some x ∧ OwnC K (Av B o) H s x := by
  by_cases hi : i < ρ.length
  · have q := r.slot i ρ[i] (by simp [hi])
    rw [e] at q
    generalize hs : σ[i]? = sv at q
    generalize hr : ρ[i] = rv at q
    cases q with
    | own e1 c => exact ⟨_, _, by simp [hi, hr], rfl, e1, c⟩
  · rw [r.out i (by omega)] at e; cases e
theorem Rep.some_own (r : Rep K B o σ H ρ) {i : Nat} {a : Addr} (e : o i = some a) : H a ≠ none := by
  obtain ⟨s, x, _, _, h, _⟩ := r.ownAt e
  rw [h]; simp
theorem Rep.av (r : Rep K B o σ H ρ) {a : Addr} (e : Av B o a) : H a ≠ none := by
  rcases e with e | ⟨i, e⟩
  · exact r.low a e
  · exact r.some_own e
theorem Rep.fresh (r : Rep K B o σ H ρ) {a : Addr} (e : H a = none) : ¬ Av B o a := fun z => r.av z e
end
end G
namespace G
open PySem PySem.Spec PyProof.Rows L2

theorem PE.imp {X : Cx} {e : Expr} {t t' : TE} (h : PE X e t) (i : ∀ σ H Q, t' σ H Q → t σ H Q) : PE X e t' := ⟨fun pins s σ H Q I q => h.run pins s σ H Q I (i _ _ _ q)⟩
theorem PT.imp {X : Cx} {e : Expr} {t t' : TT} (h : PT X e t) (i : ∀ σ H Q, t' σ H Q → t σ H Q) : PT X e t' := ⟨fun pins s σ H Q I q => h.run pins s σ H Q I (i _ _ _ q)⟩
theorem PW.imp {X : Cx} {e : Expr} {t t' : TT} (h : PW X e t) (i : ∀ σ H Q, t' σ H Q → t σ H Q) : PW X e t' := ⟨fun wh pins s σ H Q I q => h.run wh pins s σ H Q I (i _ _ _ q)⟩
theorem PA.imp {X : Cx} {e : List Expr} {t t' : TA} (h : PA X e t) (i : ∀ σ H Q, t' σ H Q → t σ H Q) : PA X e t' := ⟨fun pos pins s σ H Q I q => h.run pos pins s σ H Q I (i _ _ _ q)⟩
theorem PS.imp {X : Cx} {e : Stmt} {t t' : TS} (h : PS X e t) (i : ∀ D σ H, t' D σ H → t D σ H) : PS X e t' := ⟨fun pins s σ H D I q => h.run pins s σ H D I (i _ _ _ q)⟩
theorem PSs.imp {X : Cx} {e : List Stmt} {t t' : TS} (h : PSs X e t) (i : ∀ D σ H, t' D σ H → t D σ H) : PSs X e t' := ⟨fun pins s σ H D I q => h.run pins s σ H D I (i _ _ _ q)⟩
theorem PTs.imp {X : Cx} {e : List Expr} {t t' : TT} (h : PTs X e t) (i : ∀ σ H Q, t' σ H Q → t σ H Q) : PTs X e t' := ⟨fun pins s σ H Q I q => h.run pins s σ H Q I (i _ _ _ q)⟩
theorem PI.imp {X : Cx} {tg e : Expr} {t t' : TI} (h : PI X tg e t) (i : ∀ σ H Q, t' σ H Q → t σ H Q) : PI X tg e t' := ⟨fun pins s σ H Q I q => h.run pins s σ H Q I (i _ _ _ q)⟩
theorem PG.imp {X : Cx} {tg : Expr} {t t' : TG} (h : PG X tg t) (i : ∀ v σ H Q, t' v σ H Q → t v σ H Q) : PG X tg t' := ⟨fun pins s σ H v u Q I r q => h.run pins s σ H v u Q I r (i _ _ _ _ q)⟩

def Bp (B : Addr → Prop) (p : Addr) : Addr → Prop := fun a => B a ∨ a = p

def Fresh (K : PySem.W.Frag) (B : Addr → Prop) (o' : Nat → Option Addr) (σ : St) (H H' : Hp) (ρ' : Env) (d : AV) (v : V) : Prop :=
  ∃ p x, v = .ref p ∧ H p = none ∧ (∀ i, o' i ≠ some p) ∧ H' p = some x ∧ Rep K (Bp B p) o' σ H' ρ' ∧ Cont K (Av (Bp B p) o') H' d x

def Fin (K : PySem.W.Frag) (B : Addr → Prop) (o : Nat → Option Addr) (σ : St) (H : Hp) (fr : Bool) (Kc : EK) (Q : VK) : Prop :=
  ∀ o' H' ρ' d v, Ext0 o H o' H' → Rep K B o' σ H' ρ' → RV K (Av B o') H' d v → (fr = true → Fresh K B o' σ H H' ρ' d v) → Kc d ρ' = true → Q v H'
def TEr (K : PySem.W.Frag) (C : Handler) (e : E) : TE := fun σ H Q => ∃ B o ρ Kc, Rep K B o σ H ρ ∧ wpE C e ρ Kc = true ∧ Fin K B o σ H e.fresh Kc Q

/-- arguments: values, or (pk) what may be read -/
def RA (K : PySem.W.Frag) (A : Addr → Prop) (H : Hp) (pk : Bool) (ds : List AV) (vs : List V) : Prop := match pk with
  | true => Paired (RVp K A H) ds vs
  | false => RVs K A H ds vs
def FinA (K : PySem.W.Frag) (B : Addr → Prop) (o : Nat → Option Addr) (σ : St) (H : Hp) (pk : Bool) (Kc : List AV → Env → Bool) (Q : List V → Hp → Prop) : Prop :=
  ∀ o' H' ρ' ds vs, Ext0 o H o' H' → Rep K B o' σ H' ρ' → RA K (Av B o') H' pk ds vs → Kc ds ρ' = true → Q vs H'
def TAr (K : PySem.W.Frag) (C : Handler) (pk : Bool) (es : Es) : TA := fun σ H Q => ∃ B o ρ Kc, Rep K B o σ H ρ ∧ wpEs C pk es ρ Kc = true ∧ FinA K B o σ H pk Kc Q

def tst (Kb : Bool → Env → Bool) : EK := fun v ρ1 => match truthy v with
  | some b => Kb b ρ1
  | none => false
def FinT (K : PySem.W.Frag) (B : Addr → Prop) (o : Nat → Option Addr) (σ : St) (H : Hp) (Kb : Bool → Env → Bool) (Q : Bool → Hp → Prop) : Prop :=
  ∀ o' H' ρ' b, Ext0 o H o' H' → Rep K B o' σ H' ρ' → Kb b ρ' = true → Q b H'
def TTr (K : PySem.W.Frag) (C : Handler) (e : E) : TT := fun σ H Q => ∃ B o ρ Kb, Rep K B o σ H ρ ∧ wpE C e ρ (tst Kb) = true ∧ FinT K B o σ H Kb Q

def PostP (K : PySem.W.Frag) (A : Addr → Prop) (H : Hp) (fr : Bool) (d : AV) (v : V) (H' : Hp) : Prop :=
  (fr = false ∧ H' = H ∧ RV K A H d v) ∨ ∃ p x, H p = none ∧ H' = upd H p x ∧ v = .ref p ∧ Cont K A H d x

section
variable {K : PySem.W.Frag} {B : Addr → Prop} {W W' : Nat → Prop} {o o1 o2 o' : Nat → Option Addr} {H H1 H2 H' : Hp} {σ σ' : St} {ρ ρ' : Env} {C : Handler}

theorem upd_old {p b : Addr} {x y : HO} (hp : H p = none) (e : H b = some y) : upd H p x b = some y := by
  rw [upd_ne (ne_of_none e hp)]; exact e
theorem av_bp {p a : Addr} : Av (Bp B p) o a ↔ Av B o a ∨ a = p := by
  constructor
  · rintro ((h | h) | h)
    · exact .inl (.inl h)
    · exact .inr h
    · exact .inl (.inr h)
  · rintro ((h | h) | h)
    · exact .inl (.inl h)
    · exact .inr h
    · exact .inl (.inr h)
/-- a new object is laid: values stay, also away from it -/
theorem stay_laid {p : Addr} {x : HO} (hp : H p = none) : ∀ b y, H b = some y → ¬ Av B o b → upd H p x b = some y ∧ ¬ Av (Bp B p) o b := fun b y e n =>
  ⟨upd_old hp e, fun z => (av_bp.mp z).elim n fun z => by subst z; rw [hp] at e; cases e⟩
theorem Rep.laid {p : Addr} {x : HO} (r : Rep K B o σ H ρ) (hp : H p = none) : Rep K (Bp B p) o σ (upd H p x) ρ where
  len := r.len
  slot := fun i s e => (r.slot i s e).mono (stay_laid hp) fun a y _ e => upd_old hp e
  out := r.out
  inj := r.inj
  low := fun a h => by
    rcases h with h | h
    · intro z
      cases e : H a with
      | none => exact r.low a h e
      | some y => rw [upd_old hp e] at z; cases z
    · rw [h, upd_same]; simp
  free := fun i s a e1 e2 e3 z => by
    rcases z with z | z
    · exact r.free i s a e1 e2 e3 z
    · subst z
      exact r.some_own e2 hp
theorem Rep.unBp {p : Addr} (r : Rep K (Bp B p) o σ H ρ) : Rep K B o σ H ρ where
  len := r.len
  slot := fun i s e => (r.slot i s e).mono (fun b y e n => ⟨e, fun z => n (av_bp.mpr (.inl z))⟩) fun a y _ e => e
  out := r.out
  inj := r.inj
  low := fun a h => r.low a (.inl h)
  free := fun i s a e1 e2 e3 z => r.free i s a e1 e2 e3 (.inl z)
theorem Ext.laid {p : Addr} {x : HO} (hp : H p = none) : Ext W o H o (upd H p x) where
  keep := fun a y e _ => upd_old hp e
  there := fun a h => by
    cases e : H a with
    | none => exact absurd e h
    | some y => rw [upd_old hp e]; simp
  own := fun i a e => .inl e

theorem prim_step {fr : Bool} {d : AV} {v : V} (r : Rep K B o σ H ρ) (h : PostP K (Av B o) H fr d v H') :
    Ext0 o H o H' ∧ Rep K B o σ H' ρ ∧ RV K (Av B o) H' d v ∧ (fr = true → Fresh K B o σ H H' ρ d v) := by
  rcases h with ⟨hf, rfl, rv⟩ | ⟨p, x, hp, rfl, rfl, c⟩
  · exact ⟨.refl, r, rv, fun z => by rw [hf] at z; cases z⟩
  · have rl := r.laid (x := x) hp
    have cl := c.mono (stay_laid (x := x) hp)
    have np : ∀ i, o i ≠ some p := fun i z => r.some_own z hp
    refine ⟨.laid hp, rl.unBp, (c.mono fun b y e n => ⟨upd_old hp e, n⟩).rv upd_same (r.fresh hp), fun _ => ⟨p, x, rfl, hp, np, upd_same, rl, cl⟩⟩

theorem RA.nil {A : Addr → Prop} {pk : Bool} : RA K A H pk [] [] := by
  cases pk
  · exact RVs.nil
  · exact Paired.nil
theorem Fresh.trans {d : AV} {v : V} (x : Ext0 o H o1 H1) (f : Fresh K B o' σ H1 H' ρ' d v) : Fresh K B o' σ H H' ρ' d v := by
  obtain ⟨p, y, e, hp, r⟩ := f
  refine ⟨p, y, e, ?_, r⟩
  cases q : H p with
  | none => rfl
  | some z => exact absurd hp (x.there p (by rw [q]; simp))
theorem Fin.ext {fr : Bool} {Kc : EK} {Q : VK} (h : Fin K B o σ H fr Kc Q) (x : Ext0 o H o1 H1) : Fin K B o1 σ H1 fr Kc Q := fun o' H' ρ' d v e r rv f q =>
  h o' H' ρ' d v (x.trans e) r rv (fun z => (f z).trans x) q

theorem TEr.prim {p : Prim} {es : Es} {R : List V → Hp → VK → Prop} {Q : VK}
    (hR : ∀ (A : Addr → Prop) (H : Hp) ds vs d (Q : VK), RA K A H p.pkOk ds vs → primS p ds = some d → (∀ v H', PostP K A H p.fresh d v H' → Q v H') → R vs H Q)
    (h : TEr K C (.prim p es) σ H Q) : TAr K C p.pkOk es σ H (fun vs H2 => R vs H2 Q) := by
  obtain ⟨B, o, ρ, Kc, r, w, f⟩ := h
  refine ⟨B, o, ρ, _, r, w, fun o1 H1 ρ1 ds vs x1 r1 ra q => ?_⟩
  cases e : primS p ds with
  | none => simp only [e] at q; cases q
  | some d =>
    simp only [e] at q
    refine hR _ _ _ _ _ _ ra e fun v H2 post => ?_
    obtain ⟨x2, r2, rv, fr⟩ := prim_step r1 post
    exact f _ _ _ _ _ (x1.trans x2) r2 rv (fun z => (fr z).trans x1) q

theorem TAr.nil {pk : Bool} {Q : List V → Hp → Prop} (h : TAr K C pk .nil σ H Q) : Q [] H := by
  obtain ⟨B, o, ρ, Kc, r, w, f⟩ := h
  exact f _ _ _ _ _ .refl r RA.nil w
theorem Paired.mono' {α β : Type} {R S : α → β → Prop} : ∀ {xs : List α} {ys : List β}, Paired R xs ys → (∀ x y, R x y → S x y) → Paired S xs ys
  | _, _, .nil, _ => .nil
  | _, _, .cons r t, h => .cons (h _ _ r) (Paired.mono' t h)
theorem RA.cons {A : Addr → Prop} {pk : Bool} {d : AV} {v : V} {ds : List AV} {vs : List V} (h : RV K A H d v) (t : RA K A H pk ds vs) : RA K A H pk (d :: ds) (v :: vs) := by
  cases pk with
  | true => exact Paired.cons (RVp.val h) t
  | false => exact RVs.cons h t
theorem TAr.cons {pk : Bool} {e : E} {r : Es} {Q : List V → Hp → Prop} (h : TAr K C pk (.cons e r) σ H Q) : TEr K C e σ H fun x H1 => TAr K C pk r σ H1 fun xs H2 => Q (x :: xs) H2 := by
  obtain ⟨B, o, ρ, Kc, rp, w, f⟩ := h
  refine ⟨B, o, ρ, _, rp, w, fun o1 H1 ρ1 d v x1 r1 rv _ q => ?_⟩
  refine ⟨B, o1, ρ1, _, r1, q, fun o2 H2 ρ2 ds vs x2 r2 ra q2 => ?_⟩
  exact f _ _ _ _ _ (x1.trans x2) r2 (RA.cons (x2.rv rv) ra) q2
theorem SlotR.peeked {A : Addr → Prop} {s : Slot} {sv : Option (Option V)} {oa : Option Addr} {d : AV} (r : SlotR K A H s sv oa)
    (e : (match (some s : Option Slot) with | some (.val v) => some v | some (.olst _ xs) => some (PyData.list xs) | some (.odct _ t kvs) => some (mkD t kvs) | _ => Option.none) = some d) : ∃ v, sv = some (some v) ∧ RVp K A H d v := by
  cases r with
  | none => cases e
  | val rv => cases e; exact ⟨_, rfl, .val rv⟩
  | own e1 c =>
    cases c with
    | lst rs => cases e; exact ⟨_, rfl, .lst e1 rs⟩
    | dK rs => cases e; exact ⟨_, rfl, .dK e1 rs⟩
    | dT rs => cases e; exact ⟨_, rfl, .dT e1 rs⟩
    | cup => cases e
theorem Rep.peeked {i : Nat} {d : AV} (r : Rep K B o σ H ρ) (e : peek i ρ = some d) : ∃ v, σ[i]? = some (some v) ∧ RVp K (Av B o) H d v := by
  unfold peek at e
  cases q : ρ[i]? with
  | none => rw [q] at e; cases e
  | some s =>
    rw [q] at e
    exact (r.slot i s q).peeked e
theorem TAr.pk {i : Nat} {r : Es} {Q : List V → Hp → Prop} (h : TAr K C true (.pk i r) σ H Q) : tVar i σ H fun x H1 => TAr K C true r σ H1 fun xs H2 => Q (x :: xs) H2 := by
  obtain ⟨B, o, ρ, Kc, rp, w, f⟩ := h
  rw [wpEs] at w
  cases hp : peek i ρ with
  | none => rw [hp] at w; simp at w
  | some d0 =>
    rw [hp] at w
    simp only [Option.isSome_some, Bool.and_self, if_true] at w
    obtain ⟨v, hv, _⟩ := rp.peeked hp
    refine ⟨v, hv, B, o, ρ, _, rp, w, fun o2 H2 ρ2 ds vs x2 r2 ra q2 => ?_⟩
    cases hp2 : peek i ρ2 with
    | none => simp only [hp2] at q2; cases q2
    | some d =>
      simp only [hp2] at q2
      obtain ⟨v2, hv2, rv2⟩ := r2.peeked hp2
      rw [hv] at hv2
      cases hv2
      exact f _ _ _ _ _ x2 r2 (Paired.cons rv2 ra) q2

/-! ### names, constants -/

/-- an own slot becomes a value -/
def drop (o : Nat → Option Addr) (i : Nat) : Nat → Option Addr := fun j => if j = i then none else o j
theorem drop_le {i j : Nat} {a : Addr} (e : drop o i j = some a) : o j = some a := by
  unfold drop at e
  split at e
  · cases e
  · exact e
theorem ext_drop {i : Nat} : Ext W o H (drop o i) H := ⟨fun _ _ e _ => e, fun _ h => h, fun _ _ e => .inl (drop_le e)⟩
theorem stay_drop {i : Nat} : ∀ b x, H b = some x → ¬ Av B o b → H b = some x ∧ ¬ Av B (drop o i) b := fun b x e n =>
  ⟨e, fun z => by
    rcases z with z | ⟨j, z⟩
    · exact n (.inl z)
    · exact n (.inr ⟨j, drop_le z⟩)⟩
theorem Rep.setVal {i : Nat} {d : AV} {v : V} (r : Rep K B o σ H ρ) (hv : σ[i]? = some (some v)) (hr : RV K (Av B (drop o i)) H d v) : Rep K B (drop o i) σ H (ρ.set i (.val d)) where
  len := by rw [List.length_set]; exact r.len
  slot := fun j s e => by
    by_cases h : j = i
    · subst h
      by_cases hj : j < ρ.length
      · rw [List.getElem?_set_self hj] at e; cases e
        rw [hv, show drop o j j = none by unfold drop; rw [if_pos rfl]]
        exact .val hr
      · rw [List.getElem?_eq_none (by rw [List.length_set]; omega)] at e; cases e
    · rw [List.getElem?_set_ne (Ne.symm h)] at e
      rw [show drop o i j = o j by unfold drop; rw [if_neg h]]
      exact (r.slot j s e).mono stay_drop fun _ _ _ e => e
  out := fun j h => by
    unfold drop
    split
    · rfl
    · exact r.out j (by rw [List.length_set] at h; exact h)
  inj := fun a b c h1 h2 => r.inj a b c (drop_le h1) (drop_le h2)
  low := r.low
  free := fun j s a e1 e2 e3 => by
    by_cases h : j = i
    · subst h
      unfold drop at e2
      rw [if_pos rfl] at e2; cases e2
    · rw [List.getElem?_set_ne (Ne.symm h)] at e1
      exact r.free j s a e1 (drop_le e2) e3
theorem not_av_drop {i : Nat} {a : Addr} {s : Slot} (r : Rep K B o σ H ρ) (hs : ρ[i]? = some s) (ho : o i = some a) (hl : s.ln = false) : ¬ Av B (drop o i) a := by
  rintro (z | ⟨j, z⟩)
  · exact r.free i s a hs ho hl z
  · have e := drop_le z
    have : j = i := r.inj j i a e ho
    subst this
    unfold drop at z
    rw [if_pos rfl] at z; cases z
theorem Rep.readVar {i : Nat} {d : AV} (r : Rep K B o σ H ρ) (e : readVar i ρ = some (d, ρ')) : ∃ o' v, σ[i]? = some (some v) ∧ Ext0 o H o' H ∧ Rep K B o' σ H ρ' ∧ RV K (Av B o') H d v := by
  unfold G.readVar at e
  cases q : ρ[i]? with
  | none => rw [q] at e; cases e
  | some s =>
    rw [q] at e
    have sr := r.slot i s q
    generalize hsv : σ[i]? = sv at sr
    generalize hoa : o i = oa at sr
    cases sr with
    | none => cases e
    | val rv => cases e; exact ⟨o, _, rfl, .refl, r, rv⟩
    | own e1 c =>
      cases c with
      | @lst l xs ds rs =>
        cases l with
        | true => cases e
        | false =>
          cases e
          have n := not_av_drop r q hoa rfl
          have rv := RV.lst (K := K) e1 n (rs.mono stay_drop)
          exact ⟨_, _, rfl, ext_drop, r.setVal hsv rv, rv⟩
      | @dK l xs ds rs =>
        cases l with
        | true => cases e
        | false =>
          cases e
          have n := not_av_drop r q hoa rfl
          have rv := RV.dK (K := K) e1 n (rs.mono stay_drop)
          exact ⟨_, _, rfl, ext_drop, r.setVal hsv rv, rv⟩
      | @dT l xs ds rs =>
        cases l with
        | true => cases e
        | false =>
          cases e
          have n := not_av_drop r q hoa rfl
          have rv := RV.dT (K := K) e1 n (rs.mono stay_drop)
          exact ⟨_, _, rfl, ext_drop, r.setVal hsv rv, rv⟩
      | cup => cases e
theorem TEr.var {i : Nat} {Q : VK} (h : TEr K C (.var i) σ H Q) : tVar i σ H Q := by
  obtain ⟨B, o, ρ, Kc, r, w, f⟩ := h
  rw [wpE] at w
  cases e : readVar i ρ with
  | none => rw [e] at w; cases w
  | some p =>
    obtain ⟨d, ρ'⟩ := p
    rw [e] at w
    obtain ⟨o', v, hv, x, r', rv⟩ := r.readVar e
    exact ⟨v, hv, f _ _ _ _ _ x r' rv (fun z => by cases z) w⟩
theorem TEr.cst {d : AV} {v : V} {Q : VK} (hv : ∀ A H, RV K A H d v) (h : TEr K C (.cst d) σ H Q) : tC v σ H Q := by
  obtain ⟨B, o, ρ, Kc, r, w, f⟩ := h
  rw [wpE] at w
  exact f _ _ _ _ _ .refl r (hv _ _) (fun z => by cases z) w
/-- truth -/
theorem truth_ok {A : Addr → Prop} {d : AV} {v : V} {b : Bool} (r : RV K A H d v) (e : truthy d = some b) : TruV K v H b := by
  cases r with
  | non => cases e; exact rfl
  | bl b => cases e; exact rfl
  | int i => cases e; exact rfl
  | str x => cases e
  | lst e1 n rs =>
    cases e
    refine .inl ⟨_, .inl (.inl e1), ?_⟩
    cases rs <;> rfl
  | tup e1 n rs =>
    cases e
    refine .inr (.inl ⟨_, .inl (.inl e1), ?_⟩)
    cases rs <;> rfl
  | tupK e1 e2 e3 e4 e5 rs =>
    cases e
    refine .inr (.inl ⟨_, .inr ⟨_, _, _, e1, e2, e3, e4, e5⟩, ?_⟩)
    cases rs <;> rfl
  | dK e1 n rs => cases e
  | dT e1 n rs => cases e
theorem TTr.val {e : E} {Q : Bool → Hp → Prop} (h : TTr K C e σ H Q) : TEr K C e σ H fun x H1 => ∃ k, TruV K x H1 k ∧ Q k H1 := by
  obtain ⟨B, o, ρ, Kb, r, w, f⟩ := h
  refine ⟨B, o, ρ, _, r, w, fun o1 H1 ρ1 d v x1 r1 rv _ q => ?_⟩
  unfold tst at q
  cases e : truthy d with
  | none => rw [e] at q; cases q
  | some b =>
    rw [e] at q
    exact ⟨b, truth_ok rv e, f _ _ _ _ x1 r1 q⟩
/-- a test that hands back a bool alone -/
theorem TTr.bool {e : E} {Q : Bool → Hp → Prop} (h : TTr K C e σ H Q) : TEr K C e σ H fun x H1 => ∀ k, x = .bl k → Q k H1 := by
  obtain ⟨B, o, ρ, Kb, r, w, f⟩ := h
  refine ⟨B, o, ρ, _, r, w, fun o1 H1 ρ1 d v x1 r1 rv _ q k hk => ?_⟩
  subst hk
  cases rv
  exact f _ _ _ _ x1 r1 q
end
end G
namespace G
open PySem PySem.Spec PyProof.Rows L2
section
variable {K : PySem.W.Frag} {B : Addr → Prop} {W W' : Nat → Prop} {o o1 o2 o' : Nat → Option Addr} {H H1 H2 H' : Hp} {σ σ' : St} {ρ ρ' : Env} {C : Handler}

theorem Fin.ext0 {fr fr' : Bool} {Kc : EK} {Q : VK} (h : Fin K B o σ H fr Kc Q) (hf : fr = false) (x : Ext0 o H o1 H1) : Fin K B o1 σ H1 fr' Kc Q := fun o' H' ρ' d v e r rv f q =>
  h o' H' ρ' d v (x.trans e) r rv (fun z => by rw [hf] at z; cases z) q

theorem TEr.andR {a b : E} {Q : VK} (h : TEr K C (.and a b) σ H Q) : tAndT K (TEr K C a) (TEr K C b) σ H Q := by
  obtain ⟨B, o, ρ, Kc, r, w, f⟩ := h
  rw [wpE] at w
  refine ⟨B, o, ρ, _, r, w, fun o1 H1 ρ1 d v x1 r1 rv _ q => ?_⟩
  cases e : truthy d with
  | none => simp only [e] at q; cases q
  | some b =>
    simp only [e] at q
    refine ⟨b, truth_ok rv e, ?_⟩
    cases b with
    | true => exact ⟨B, o1, ρ1, Kc, r1, q, f.ext0 rfl x1⟩
    | false => exact f _ _ _ _ _ x1 r1 rv (fun z => by cases z) q
theorem TEr.orR {a b : E} {Q : VK} (h : TEr K C (.or a b) σ H Q) : tOrT K (TEr K C a) (TEr K C b) σ H Q := by
  obtain ⟨B, o, ρ, Kc, r, w, f⟩ := h
  rw [wpE] at w
  refine ⟨B, o, ρ, _, r, w, fun o1 H1 ρ1 d v x1 r1 rv _ q => ?_⟩
  cases e : truthy d with
  | none => simp only [e] at q; cases q
  | some b =>
    simp only [e] at q
    refine ⟨b, truth_ok rv e, ?_⟩
    cases b with
    | false => exact ⟨B, o1, ρ1, Kc, r1, q, f.ext0 rfl x1⟩
    | true => exact f _ _ _ _ _ x1 r1 rv (fun z => by cases z) q
theorem TEr.notR {a : E} {Q : VK} (h : TEr K C (.not a) σ H Q) : tNotT K (TEr K C a) σ H Q := by
  obtain ⟨B, o, ρ, Kc, r, w, f⟩ := h
  rw [wpE] at w
  refine ⟨B, o, ρ, _, r, w, fun o1 H1 ρ1 d v x1 r1 rv _ q => ?_⟩
  cases e : truthy d with
  | none => simp only [e] at q; cases q
  | some b =>
    simp only [e] at q
    exact ⟨b, truth_ok rv e, f _ _ _ _ _ x1 r1 (.bl _) (fun z => by cases z) q⟩
theorem TTr.intro {c : E} {Kb : Bool → Env → Bool} {Q : Bool → Hp → Prop} (r : Rep K B o σ H ρ) (w : wpE C c ρ (tst Kb) = true) (f : FinT K B o σ H Kb Q) : TTr K C c σ H Q := ⟨B, o, ρ, Kb, r, w, f⟩
theorem tst_ife {X Y : Env → Bool} : (fun (v : AV) (ρ1 : Env) => match truthy v with | some true => X ρ1 | some false => Y ρ1 | none => false) = tst fun b ρ => if b then X ρ else Y ρ := by
  funext v ρ
  unfold tst
  cases truthy v with
  | none => rfl
  | some b => cases b <;> rfl
theorem TEr.ifeR {c a b : E} {Q : VK} (h : TEr K C (.ife c a b) σ H Q) : tIf (TTr K C c) (TEr K C a) (TEr K C b) σ H Q := by
  obtain ⟨B, o, ρ, Kc, r, w, f⟩ := h
  rw [wpE] at w
  replace w := (congrArg (fun k => wpE C c ρ k = true) (tst_ife (X := fun ρ => _) (Y := fun ρ => _))).mp w
  refine ⟨B, o, ρ, _, r, w, fun o1 H1 ρ1 b' x1 r1 q => ?_⟩
  cases b' with
  | true => exact ⟨B, o1, ρ1, Kc, r1, q, f.ext0 rfl x1⟩
  | false => exact ⟨B, o1, ρ1, Kc, r1, q, f.ext0 rfl x1⟩
/-! tests -/
theorem FinT.ext {Kb : Bool → Env → Bool} {Q : Bool → Hp → Prop} (h : FinT K B o σ H Kb Q) (x : Ext0 o H o1 H1) : FinT K B o1 σ H1 Kb Q := fun o' H' ρ' d e r q => h o' H' ρ' d (x.trans e) r q
theorem TTr.notR {a : E} {Q : Bool → Hp → Prop} (h : TTr K C (.not a) σ H Q) : tNot (TTr K C a) σ H Q := by
  obtain ⟨B, o, ρ, Kb, r, w, f⟩ := h
  rw [wpE] at w
  refine ⟨B, o, ρ, fun b ρ => Kb (!b) ρ, r, ?_, fun o1 H1 ρ1 b x1 r1 q => f _ _ _ _ x1 r1 q⟩
  have e : (fun (v : AV) (ρ1 : Env) => match truthy v with | some b => tst Kb (.bool !b) ρ1 | none => false) = tst fun b ρ => Kb (!b) ρ := by
    funext v ρ
    unfold tst
    cases truthy v <;> rfl
  exact (congrArg (fun k => wpE C a ρ k = true) e).mp w
theorem truthy_tst {Kb : Bool → Env → Bool} {v : AV} {b : Bool} {ρ : Env} (e : truthy v = some b) : tst Kb v ρ = Kb b ρ := by
  unfold tst; rw [e]
theorem TTr.andR {a b : E} {Q : Bool → Hp → Prop} (h : TTr K C (.and a b) σ H Q) : tAnd (TTr K C a) (TTr K C b) σ H Q := by
  obtain ⟨B, o, ρ, Kb, r, w, f⟩ := h
  rw [wpE] at w
  refine ⟨B, o, ρ, fun k ρ1 => if k then wpE C b ρ1 (tst Kb) else Kb false ρ1, r, ?_, fun o1 H1 ρ1 k x1 r1 q => ?_⟩
  · have e : (fun (v : AV) (ρ1 : Env) => match truthy v with | some true => wpE C b ρ1 (tst Kb) | some false => tst Kb v ρ1 | none => false) = tst fun k ρ1 => if k then wpE C b ρ1 (tst Kb) else Kb false ρ1 := by
      funext v ρ
      cases e : truthy v with
      | none => simp only [tst, e]
      | some k => cases k <;> simp [tst, e]
    exact (congrArg (fun k => wpE C a ρ k = true) e).mp w
  · cases k with
    | true => exact ⟨B, o1, ρ1, Kb, r1, q, f.ext x1⟩
    | false => exact f _ _ _ _ x1 r1 q
theorem TTr.orR {a b : E} {Q : Bool → Hp → Prop} (h : TTr K C (.or a b) σ H Q) : tOr (TTr K C a) (TTr K C b) σ H Q := by
  obtain ⟨B, o, ρ, Kb, r, w, f⟩ := h
  rw [wpE] at w
  refine ⟨B, o, ρ, fun k ρ1 => if k then Kb true ρ1 else wpE C b ρ1 (tst Kb), r, ?_, fun o1 H1 ρ1 k x1 r1 q => ?_⟩
  · have e : (fun (v : AV) (ρ1 : Env) => match truthy v with | some true => tst Kb v ρ1 | some false => wpE C b ρ1 (tst Kb) | none => false) = tst fun k ρ1 => if k then Kb true ρ1 else wpE C b ρ1 (tst Kb) := by
      funext v ρ
      cases e : truthy v with
      | none => simp only [tst, e]
      | some k => cases k <;> simp [tst, e]
    exact (congrArg (fun k => wpE C a ρ k = true) e).mp w
  · cases k with
    | true => exact f _ _ _ _ x1 r1 q
    | false => exact ⟨B, o1, ρ1, Kb, r1, q, f.ext x1⟩
theorem TTr.ifeR {c a b : E} {Q : Bool → Hp → Prop} (h : TTr K C (.ife c a b) σ H Q) : TTr K C c σ H fun k H1 => if k = true then TTr K C a σ H1 Q else TTr K C b σ H1 Q := by
  obtain ⟨B, o, ρ, Kb, r, w, f⟩ := h
  rw [wpE] at w
  replace w := (congrArg (fun k => wpE C c ρ k = true) (tst_ife (X := fun ρ => _) (Y := fun ρ => _))).mp w
  refine ⟨B, o, ρ, _, r, w, fun o1 H1 ρ1 b' x1 r1 q => ?_⟩
  cases b' with
  | true => exact ⟨B, o1, ρ1, Kb, r1, q, f.ext x1⟩
  | false => exact ⟨B, o1, ρ1, Kb, r1, q, f.ext x1⟩

/-! a op b op' c -/
theorem RA.two {A : Addr → Prop} {pk : Bool} {x y : V} {d e : AV} (h1 : RV K A H d x) (h2 : RV K A H e y) : RA K A H pk [d, e] [x, y] := RA.cons h1 (RA.cons h2 RA.nil)
theorem TEr.chainR {p q : Prim} {a b c : E} {Rp Rq : R2} {Q : VK}
    (hp : ∀ (A : Addr → Prop) (H : Hp) d e z x y (Q : VK), RV K A H d x → RV K A H e y → primS p [d, e] = some (.bool z) → Q (.bl z) H → Rp x y H Q)
    (hq : ∀ (A : Addr → Prop) (H : Hp) d e z x y (Q : VK), RV K A H d x → RV K A H e y → primS q [d, e] = some z → (∀ v H', PostP K A H q.fresh z v H' → Q v H') → Rq x y H Q)
    (h : TEr K C (.chain p q a b c) σ H Q) : tChain Rp Rq (TEr K C a) (TEr K C b) (TEr K C c) σ H Q := by
  obtain ⟨B, o, ρ, Kc, r, w, f⟩ := h
  rw [wpE] at w
  refine ⟨B, o, ρ, _, r, w, fun o1 H1 ρ1 d x x1 r1 rv1 _ q1 => ?_⟩
  refine ⟨B, o1, ρ1, _, r1, q1, fun o2 H2 ρ2 e y x2 r2 rv2 _ q2 => ?_⟩
  have rv1' := x2.rv rv1
  cases ez : primS p [d, e] with
  | none => simp only [ez] at q2; cases q2
  | some z =>
    simp only [ez] at q2
    cases z with
    | bool k =>
      refine hp _ _ d e k x y _ rv1' rv2 ez ⟨k, rfl, ?_⟩
      cases k with
      | false => exact f _ _ _ _ _ (x1.trans x2) r2 (.bl _) (fun z => by cases z) q2
      | true =>
        refine ⟨B, o2, ρ2, _, r2, q2, fun o3 H3 ρ3 g u x3 r3 rv3 _ q3 => ?_⟩
        cases ez3 : primS q [e, g] with
        | none => simp only [ez3] at q3; cases q3
        | some z3 =>
          simp only [ez3] at q3
          refine hq _ _ _ _ _ _ _ _ (x3.rv rv2) rv3 ez3 fun v H4 post => ?_
          obtain ⟨x4, r4, rv4, _⟩ := prim_step r3 post
          exact f _ _ _ _ _ (x1.trans (x2.trans (x3.trans x4))) r4 rv4 (fun z => by cases z) q3
    | _ => cases q2

/-! pop -/
def setO (o : Nat → Option Addr) (i : Nat) (a : Option Addr) : Nat → Option Addr := fun j => if j = i then a else o j
/-- an own slot's object is changed -/
theorem Rep.change {i : Nat} {a : Addr} {s s' : Slot} {x y : HO} (r : Rep K B o σ H ρ) (hs : ρ[i]? = some s) (ho : o i = some a) (hx : H a = some x) (c : OwnC K (Av B o) H s' y) (hl : s'.ln = s.ln) :
    Ext0 o H o (upd H a y) ∧ Rep K B o σ (upd H a y) (ρ.set i s') := by
  have st : ∀ b z, H b = some z → ¬ Av B o b → upd H a y b = some z ∧ ¬ Av B o b := fun b z e n =>
    ⟨by rw [upd_ne (fun q => n (.inr ⟨i, by rw [q]; exact ho⟩))]; exact e, n⟩
  have hi : i < ρ.length := (List.getElem?_eq_some_iff.mp hs).1
  refine ⟨⟨fun b z e n => by rw [upd_ne (fun q => n i (by rw [q]; exact ho))]; exact e, fun b h => ?_, fun _ _ e => .inl e⟩, ?_⟩
  · by_cases e : b = a
    · rw [e, upd_same]; simp
    · rw [upd_ne e]; exact h
  · refine ⟨by rw [List.length_set]; exact r.len, fun j t e => ?_, fun j h => r.out j (by rw [List.length_set] at h; exact h), r.inj, fun b h => ?_, fun j t b e1 e2 e3 => ?_⟩
    · by_cases hj : j = i
      · subst hj
        rw [List.getElem?_set_self hi] at e; cases e
        have q := r.slot j s hs
        rw [ho] at q
        generalize σ[j]? = sv at q
        cases q with
        | own e1 c1 => rw [ho]; exact .own upd_same (c.mono st)
      · rw [List.getElem?_set_ne (Ne.symm hj)] at e
        refine (r.slot j t e).mono st fun b z e1 e2 => ?_
        rw [upd_ne (fun q => hj (r.inj j i b e1 (by rw [q]; exact ho)))]; exact e2
    · by_cases e : b = a
      · rw [e, upd_same]; simp
      · rw [upd_ne e]; exact r.low b h
    · by_cases hj : j = i
      · subst hj
        rw [List.getElem?_set_self hi] at e1; cases e1
        exact r.free j s b hs e2 (hl ▸ e3)
      · rw [List.getElem?_set_ne (Ne.symm hj)] at e1
        exact r.free j t b e1 e2 e3
theorem Rep.olst {i : Nat} {l : Bool} {ds : List AV} (r : Rep K B o σ H ρ) (hs : ρ[i]? = some (.olst l ds)) : ∃ a xs, σ[i]? = some (some (.ref a)) ∧ o i = some a ∧ H a = some (.lst xs) ∧ RVs K (Av B o) H ds xs := by
  have q := r.slot i _ hs
  generalize hsv : σ[i]? = sv at q
  generalize hoa : o i = oa at q
  cases q with
  | own e c =>
    cases c with
    | lst rs => exact ⟨_, _, rfl, rfl, e, rs⟩
theorem Rep.cup {i : Nat} (r : Rep K B o σ H ρ) (hs : ρ[i]? = some .cup) : ∃ a c0 c1, σ[i]? = some (some (.ref a)) ∧ o i = some a ∧ H a = some (.lst [.int c0, .int c1]) ∧ 0 ≤ c0 ∧ 0 ≤ c1 ∧ c1 < 2 ^ 32 := by
  have q := r.slot i _ hs
  generalize hsv : σ[i]? = sv at q
  generalize hoa : o i = oa at q
  cases q with
  | own e c =>
    cases c with
    | cup h1 h2 h3 => exact ⟨_, _, _, rfl, rfl, e, h1, h2, h3⟩
theorem getLast_ix {α : Type} {xs : List α} : xs.getLast? = xs[xs.length - 1]? := List.getLast?_eq_getElem?
theorem TEr.popR {i : Nat} {Q : VK} (h : TEr K C (.pop i) σ H Q) : tBM0 K "list" rPop (tVar i) σ H Q := by
  obtain ⟨B, o, ρ, Kc, r, w, f⟩ := h
  rw [wpE] at w
  cases hs : ρ[i]? with
  | none => rw [hs] at w; cases w
  | some s =>
    rw [hs] at w
    cases s with
    | olst l ds =>
      simp only at w
      cases hg : ds.getLast? with
      | none => rw [hg] at w; cases w
      | some d =>
        rw [hg] at w
        obtain ⟨a, xs, hv, ho, hx, rs⟩ := r.olst hs
        rw [getLast_ix] at hg
        obtain ⟨v, hg', rv⟩ := rs.get hg
        obtain ⟨x1, r1⟩ := r.change (s' := .olst l ds.dropLast) hs ho hx (.lst rs.dropLast) rfl
        rw [rs.length] at hg'
        refine ⟨.ref a, hv, .inl ⟨rfl, _, .inl (.inl hx)⟩, a, xs, v, rfl, rfl, hx, hg', ?_⟩
        exact f _ _ _ _ _ x1 r1 (x1.rv rv) (fun z => by cases z) w
    | _ => cases w
theorem ixN_fits {n : Nat} {k : Int} {j : Nat} (h : ixN n k = some j) (hn : n ≤ sizeLine) : -(2 ^ 63) ≤ k ∧ k < 2 ^ 63 ∧ seqIndex? k n = some j := by
  obtain ⟨h1, h2, h3, h4⟩ := ixN_seq h
  have := sizeLine_eq
  exact ⟨by omega, by omega, h1⟩
theorem Paired.get {α β : Type} {R : α → β → Prop} : ∀ {xs : List α} {ys : List β} {i : Nat} {x : α}, Paired R xs ys → xs[i]? = some x → ∃ y, ys[i]? = some y ∧ R x y
  | _, _, _, _, .nil, e => by simp at e
  | _, _, 0, x, .cons r _, e => by simp at e; subst e; exact ⟨_, rfl, r⟩
  | _, _, i + 1, x, .cons _ t, e => by
    obtain ⟨u, h1, h2⟩ := Paired.get (i := i) (x := x) t (by simpa using e)
    exact ⟨u, by simpa using h1, h2⟩
end
end G
namespace G
open PySem PySem.Spec PyProof.Rows L2

/-- arguments of a def: values, or what is lent -/
inductive ArgR (K : PySem.W.Frag) (A : Addr → Prop) (H : Hp) (σ : St) (ρ : Env) : List (Option Nat) → List Slot → List V → Prop
  | nil : ArgR K A H σ ρ [] [] []
  | val {d : AV} {v : V} {ls : List (Option Nat)} {ss : List Slot} {vs : List V} : RV K A H d v → ArgR K A H σ ρ ls ss vs → ArgR K A H σ ρ (none :: ls) (.val d :: ss) (v :: vs)
  | lent {i : Nat} {s : Slot} {v : V} {ls : List (Option Nat)} {ss : List Slot} {vs : List V} : lend i ρ = some s → σ[i]? = some (some v) → ArgR K A H σ ρ ls ss vs → ArgR K A H σ ρ (some i :: ls) (s :: ss) (v :: vs)
def TGr (K : PySem.W.Frag) (C : Handler) (es : Es) : TA := fun σ H Q => ∃ B o ρ Kc, Rep K B o σ H ρ ∧ wpArgs C es ρ Kc = true ∧
  ∀ o' H' ρ' ss vs, Ext0 o H o' H' → Rep K B o' σ H' ρ' → ArgR K (Av B o') H' σ ρ' es.lent ss vs → Kc ss ρ' = true → Q vs H'

/-- what a def of the text promises: the evaluator's answer -/
def spA (K : PySem.W.Frag) (C : Handler) (j : Nat) : Sp := fun vs H Q _ => ∃ B o ss Kc, Rep K B o (vs.map some) H ss ∧ C j ss Kc = true ∧
  ∀ H' ss' d v, Ext0 o H o H' → Rep K B o (vs.map some) H' ss' → RV K (Av B o) H' d v → Kc d ss' = true → Q v H'

section
variable {K : PySem.W.Frag} {B : Addr → Prop} {W W' : Nat → Prop} {o o1 o2 o' : Nat → Option Addr} {H H1 H2 H' : Hp} {σ σ' : St} {ρ ρ' : Env} {C : Handler}
theorem TGr.nil {Q : List V → Hp → Prop} (h : TGr K C .nil σ H Q) : Q [] H := by
  obtain ⟨B, o, ρ, Kc, r, w, f⟩ := h
  exact f _ _ _ _ _ .refl r .nil w
theorem TGr.cons {e : E} {r : Es} {Q : List V → Hp → Prop} (h : TGr K C (.cons e r) σ H Q) : TEr K C e σ H fun x H1 => TGr K C r σ H1 fun xs H2 => Q (x :: xs) H2 := by
  obtain ⟨B, o, ρ, Kc, rp, w, f⟩ := h
  refine ⟨B, o, ρ, _, rp, w, fun o1 H1 ρ1 d v x1 r1 rv _ q => ?_⟩
  refine ⟨B, o1, ρ1, _, r1, q, fun o2 H2 ρ2 ds vs x2 r2 ra q2 => ?_⟩
  exact f _ _ _ _ _ (x1.trans x2) r2 (.val (x2.rv rv) ra) q2
theorem Rep.lent {i : Nat} {s : Slot} (r : Rep K B o σ H ρ) (e : lend i ρ = some s) : ∃ a x, σ[i]? = some (some (.ref a)) ∧ o i = some a ∧ H a = some x ∧ OwnC K (Av B o) H s x ∧ s.ln = true ∧ i < ρ.length := by
  unfold lend at e
  cases q : ρ[i]? with
  | none => rw [q] at e; cases e
  | some t =>
    rw [q] at e
    have hi : i < ρ.length := (List.getElem?_eq_some_iff.mp q).1
    have sr := r.slot i t q
    generalize hsv : σ[i]? = sv at sr
    generalize hoa : o i = oa at sr
    cases sr with
    | none => cases e
    | val rv => cases e
    | own e1 c =>
      cases c with
      | lst rs => cases e; exact ⟨_, _, rfl, rfl, e1, .lst rs, rfl, hi⟩
      | dK rs => cases e; exact ⟨_, _, rfl, rfl, e1, .dK rs, rfl, hi⟩
      | dT rs => cases e; exact ⟨_, _, rfl, rfl, e1, .dT rs, rfl, hi⟩
      | cup a b c => cases e; exact ⟨_, _, rfl, rfl, e1, .cup a b c, rfl, hi⟩
theorem TGr.pk {i : Nat} {r : Es} {Q : List V → Hp → Prop} (h : TGr K C (.pk i r) σ H Q) : tVar i σ H fun x H1 => TGr K C r σ H1 fun xs H2 => Q (x :: xs) H2 := by
  obtain ⟨B, o, ρ, Kc, rp, w, f⟩ := h
  rw [wpArgs] at w
  cases hp : lend i ρ with
  | none => rw [hp] at w; simp at w
  | some d0 =>
    rw [hp] at w
    simp only [Option.isSome_some, if_true] at w
    obtain ⟨a, x, hv, _⟩ := rp.lent hp
    refine ⟨_, hv, B, o, ρ, _, rp, w, fun o2 H2 ρ2 ds vs x2 r2 ra q2 => ?_⟩
    cases hp2 : lend i ρ2 with
    | none => simp only [hp2] at q2; cases q2
    | some d =>
      simp only [hp2] at q2
      exact f _ _ _ _ _ x2 r2 (.lent hp2 hv ra) q2

/-- the callee's own addresses -/
def lentO (o : Nat → Option Addr) : List (Option Nat) → Nat → Option Addr
  | [], _ => none
  | l :: _, 0 => l.bind o
  | _ :: r, n + 1 => lentO o r n
theorem lentO_mem : ∀ {ls : List (Option Nat)} {j : Nat} {a : Addr}, lentO o ls j = some a → ∃ i, i ∈ lentNo ls ∧ ls[j]? = some (some i) ∧ o i = some a
  | [], _, _, e => by cases e
  | none :: r, 0, _, e => by cases e
  | some i :: r, 0, _, e => ⟨i, List.mem_cons_self, rfl, e⟩
  | none :: r, j + 1, _, e => by
    obtain ⟨i, h1, h2, h3⟩ := lentO_mem (ls := r) (j := j) e
    exact ⟨i, h1, by simpa using h2, h3⟩
  | some k :: r, j + 1, _, e => by
    obtain ⟨i, h1, h2, h3⟩ := lentO_mem (ls := r) (j := j) e
    exact ⟨i, List.mem_cons_of_mem _ h1, by simpa using h2, h3⟩
theorem lentNo_at : ∀ {ls : List (Option Nat)} {j : Nat} {i : Nat}, ls[j]? = some (some i) → i ∈ lentNo ls
  | [], _, _, e => by simp at e
  | none :: r, 0, _, e => by simp at e
  | some i :: r, 0, _, e => by simp at e; subst e; exact List.mem_cons_self
  | none :: r, j + 1, _, e => lentNo_at (ls := r) (j := j) (by simpa using e)
  | some k :: r, j + 1, _, e => List.mem_cons_of_mem _ (lentNo_at (ls := r) (j := j) (by simpa using e))
theorem lentNo_inj : ∀ {ls : List (Option Nat)} {j k : Nat} {i : Nat}, (lentNo ls).Nodup → ls[j]? = some (some i) → ls[k]? = some (some i) → j = k
  | [], _, _, _, _, e, _ => by simp at e
  | none :: r, 0, _, _, _, e, _ => by simp at e
  | none :: r, j + 1, 0, _, _, _, e => by simp at e
  | none :: r, j + 1, k + 1, i, n, e, e' => congrArg (· + 1) (lentNo_inj (ls := r) (i := i) n (by simpa using e) (by simpa using e'))
  | some x :: r, 0, 0, _, _, _, _ => rfl
  | some x :: r, 0, k + 1, i, n, e, e' => by
    simp at e; subst e
    exact absurd (lentNo_at (ls := r) (j := k) (by simpa using e')) (List.nodup_cons.mp n).1
  | some x :: r, j + 1, 0, i, n, e, e' => by
    simp at e'; subst e'
    exact absurd (lentNo_at (ls := r) (j := j) (by simpa using e)) (List.nodup_cons.mp n).1
  | some x :: r, j + 1, k + 1, i, n, e, e' => congrArg (· + 1) (lentNo_inj (ls := r) (i := i) (List.nodup_cons.mp n).2 (by simpa using e) (by simpa using e'))
theorem ArgR.length {A : Addr → Prop} {ls : List (Option Nat)} {ss : List Slot} {vs : List V} (h : ArgR K A H σ ρ ls ss vs) : ss.length = vs.length := by
  induction h with
  | nil => rfl
  | val _ _ ih => simp [ih]
  | lent _ _ _ ih => simp [ih]
theorem lentO_av {ls : List (Option Nat)} : ∀ a, Av (Av B o) (lentO o ls) a ↔ Av B o a := fun a => by
  constructor
  · rintro (h | ⟨j, h⟩)
    · exact h
    · obtain ⟨i, _, _, e⟩ := lentO_mem h
      exact .inr ⟨i, e⟩
  · exact .inl
/-- the frame of the callee's arguments -/
theorem ArgR.slots (r : Rep K B o σ H ρ) {ls : List (Option Nat)} {ss : List Slot} {vs : List V} (h : ArgR K (Av B o) H σ ρ ls ss vs) (A : Addr → Prop) (hA : ∀ a, A a ↔ Av B o a) :
    ∀ (j : Nat) (s : Slot), ss[j]? = some s → SlotR K A H s (vs.map some)[j]? (lentO o ls j) ∧ (∀ a, lentO o ls j = some a → s.ln = true) := by
  have mo : ∀ b x, H b = some x → ¬ Av B o b → H b = some x ∧ ¬ A b := fun b x e n => ⟨e, fun z => n ((hA b).mp z)⟩
  induction h with
  | nil => intro j s e; simp at e
  | val rv _ ih =>
    intro j s e
    cases j with
    | zero => simp at e; subst e; exact ⟨.val (rv.mono mo), fun a z => by cases z⟩
    | succ j => exact ih j s (by simpa using e)
  | lent hl hv _ ih =>
    intro j s e
    cases j with
    | zero =>
      simp at e; subst e
      obtain ⟨a, x, h1, h2, h3, h4, h5, _⟩ := r.lent hl
      rw [hv] at h1; cases h1
      refine ⟨?_, fun _ _ => h5⟩
      show SlotR K A H _ (some (some (V.ref a))) (o _)
      rw [h2]; exact .own h3 (h4.mono mo)
    | succ j => exact ih j s (by simpa using e)
theorem lentO_out {ls : List (Option Nat)} : ∀ {j : Nat}, ls.length ≤ j → lentO o ls j = none := by
  induction ls with
  | nil => intro j _; cases j <;> rfl
  | cons l r ih =>
    intro j h
    cases j with
    | zero => simp at h
    | succ j => exact ih (by simpa using h)
theorem ArgR.lsLen {A : Addr → Prop} {ls : List (Option Nat)} {ss : List Slot} {vs : List V} (h : ArgR K A H σ ρ ls ss vs) : ls.length = ss.length := by
  induction h with
  | nil => rfl
  | val _ _ ih => simp [ih]
  | lent _ _ _ ih => simp [ih]
theorem ArgR.rep (r : Rep K B o σ H ρ) {ls : List (Option Nat)} {ss : List Slot} {vs : List V} (h : ArgR K (Av B o) H σ ρ ls ss vs) (nd : (lentNo ls).Nodup) : Rep K (Av B o) (lentO o ls) (vs.map some) H ss where
  len := by rw [List.length_map]; exact h.length
  slot := fun j s e => (h.slots r _ lentO_av j s e).1
  out := fun j hj => lentO_out (by rw [h.lsLen]; exact hj)
  inj := fun i j a e1 e2 => by
    obtain ⟨x, _, h1, h2⟩ := lentO_mem e1
    obtain ⟨y, _, h3, h4⟩ := lentO_mem e2
    have := r.inj x y a h2 h4
    subst this
    exact lentNo_inj nd h1 h3
  low := fun a h => r.av h
  free := fun i s a e1 e2 e3 => by
    have := (h.slots r _ (lentO_av (ls := ls)) i s e1).2 a e2
    rw [e3] at this; cases this
theorem ArgR.lentAt {A : Addr → Prop} {ls : List (Option Nat)} {ss : List Slot} {vs : List V} (h : ArgR K A H σ ρ ls ss vs) : ∀ {k i : Nat}, ls[k]? = some (some i) → (vs.map some)[k]? = σ[i]? ∧ lentO o ls k = o i := by
  induction h with
  | nil => intro k i e; simp at e
  | val _ _ ih =>
    intro k i e
    cases k with
    | zero => simp at e
    | succ k => exact ih (by simpa using e)
  | lent _ hv _ ih =>
    intro k i e
    cases k with
    | zero => simp at e; subst e; exact ⟨hv.symm, rfl⟩
    | succ k => exact ih (by simpa using e)
theorem set_same {α : Type} : ∀ {l : List α} {i : Nat} {x : α}, l[i]? = some x → l.set i x = l
  | [], _, _, e => by simp at e
  | y :: r, 0, x, e => by simp at e; subst e; rfl
  | y :: r, i + 1, x, e => by
    rw [List.set_cons_succ, set_same (l := r) (i := i) (by simpa using e)]
/-- what is given back -/
theorem back_ok {A : Addr → Prop} (hfree : ∀ (i : Nat) (a : Addr), o i = some a → True) : ∀ {ls : List (Option Nat)} {ss : List Slot} {ρ ρ' : Env}, giveBack ls ss ρ = some ρ' →
    (∀ (j i : Nat) (s : Slot), ls[j]? = some (some i) → ss[j]? = some s → SlotR K A H s σ[i]? (o i)) →
    (∀ (i : Nat) (s : Slot), ρ[i]? = some s → i ∈ lentNo ls ∨ SlotR K A H s σ[i]? (o i)) → (∀ i s a, ρ[i]? = some s → o i = some a → s.ln = false → ¬ B a) →
    ρ'.length = ρ.length ∧ (∀ (i : Nat) (s : Slot), ρ'[i]? = some s → SlotR K A H s σ[i]? (o i)) ∧ (∀ i s a, ρ'[i]? = some s → o i = some a → s.ln = false → ¬ B a)
  | [], [], ρ, ρ', e, _, h2, h3 => by
    cases e
    exact ⟨rfl, fun i s e => (h2 i s e).elim (fun z => by cases z) id, h3⟩
  | [], _ :: _, _, _, e, _, _, _ => by cases e
  | none :: ls, [], _, _, e, _, _, _ => by cases e
  | some _ :: ls, [], _, _, e, _, _, _ => by cases e
  | none :: ls, s :: ss, ρ, ρ', e, h1, h2, h3 => back_ok hfree (ls := ls) (ss := ss) e (fun j i s a b => h1 (j + 1) i s (by simpa using a) (by simpa using b)) (fun i s a => h2 i s a) h3
  | some i :: ls, s :: ss, ρ, ρ', e, h1, h2, h3 => by
    have step : ∀ t : Slot, (∀ x y, SlotR K A H s x y → SlotR K A H t x y) → (∀ u, ρ[i]? = some u → t.ln = u.ln) → giveBack ls ss (ρ.set i t) = some ρ' → i < ρ.length →
        ρ'.length = ρ.length ∧ (∀ (i : Nat) (s : Slot), ρ'[i]? = some s → SlotR K A H s σ[i]? (o i)) ∧ (∀ i s a, ρ'[i]? = some s → o i = some a → s.ln = false → ¬ B a) := fun t ht hln e hi => by
      have q := back_ok hfree (ls := ls) (ss := ss) (ρ := ρ.set i t) e (fun j i s a b => h1 (j + 1) i s (by simpa using a) (by simpa using b)) (fun k u a => by
        by_cases hk : k = i
        · subst hk
          rw [List.getElem?_set_self hi] at a; cases a
          exact .inr (ht _ _ (h1 0 k s rfl rfl))
        · rw [List.getElem?_set_ne (Ne.symm hk)] at a
          rcases h2 k u a with z | z
          · rcases List.mem_cons.mp z with z | z
            · exact absurd z hk
            · exact .inl z
          · exact .inr z) (fun k u a e1 e2 e3 => by
        by_cases hk : k = i
        · subst hk
          rw [List.getElem?_set_self hi] at e1; cases e1
          exact h3 k ρ[k] a (by simp [hi]) e2 (by rw [← e3]; exact (hln _ (by simp [hi])).symm)
        · rw [List.getElem?_set_ne (Ne.symm hk)] at e1
          exact h3 k u a e1 e2 e3)
      rw [List.length_set] at q
      exact q
    simp only [giveBack] at e
    split at e
    · rename_i l1 xs l hq
      refine step _ (fun x y q => ?_) (fun u hu => ?_) e (List.getElem?_eq_some_iff.mp hq).1
      · cases q with
        | own e1 c => cases c with
          | lst rs => exact .own e1 (.lst rs)
      · rw [hq] at hu; cases hu; rfl
    · rename_i l1 t kvs l t2 kvs2 hq
      refine step _ (fun x y q => ?_) (fun u hu => ?_) e (List.getElem?_eq_some_iff.mp hq).1
      · cases q with
        | own e1 c => cases c with
          | dK rs => exact .own e1 (.dK rs)
          | dT rs => exact .own e1 (.dT rs)
      · rw [hq] at hu; cases hu; rfl
    · rename_i hq
      have hi := (List.getElem?_eq_some_iff.mp hq).1
      refine step .cup (fun x y q => q) (fun u hu => ?_) (by rw [set_same hq]; exact e) hi
      rw [hq] at hu; cases hu; rfl
    · rename_i hq; cases e

theorem TEr.callR {j : Nat} {es : Es} {Q : VK} {E : XK} (h : TEr K C (.call j es) σ H Q) : tCall (spA K C j) [] E (TGr K C es) σ H Q := by
  obtain ⟨B, o, ρ, Kc, r, w, f⟩ := h
  rw [wpE] at w
  refine ⟨B, o, ρ, _, r, w, fun o1 H1 ρ1 ss vs x1 r1 ar q => ?_⟩
  split at q
  · rename_i nd
    rw [List.append_nil]
    have rc := ar.rep r1 nd
    refine ⟨_, _, ss, _, rc, q, fun H2 ss' d v x2 r2 rv q2 => ?_⟩
    split at q2
    · rename_i ρ2 hb
      -- the caller's frame behind the call
      have keepO : ∀ b y, H1 b = some y → (∀ i, o1 i ≠ some b) → H2 b = some y := fun b y e n => x2.keep b y e fun k z => by
        obtain ⟨i, _, _, e'⟩ := lentO_mem z
        exact n i e'
      have st : ∀ b y, H1 b = some y → ¬ Av B o1 b → H2 b = some y ∧ ¬ Av B o1 b := fun b y e n => ⟨keepO b y e fun i z => n (.inr ⟨i, z⟩), n⟩
      have un : ∀ b y, H2 b = some y → ¬ Av (Av B o1) (lentO o1 es.lent) b → H2 b = some y ∧ ¬ Av B o1 b := fun b y e n => ⟨e, fun z => n (.inl z)⟩
      have bk := back_ok (K := K) (A := Av B o1) (H := H2) (o := o1) (σ := σ) (B := B) (fun _ _ _ => True.intro) hb (fun k i s e1 e2 => by
          have q3 := (r2.slot k s e2).mono un fun _ _ _ e => e
          obtain ⟨e3, e4⟩ := ar.lentAt (o := o1) e1
          rw [e4, e3] at q3
          exact q3) (fun i s e => by
          by_cases hi : i ∈ lentNo es.lent
          · exact .inl hi
          · refine .inr ((r1.slot i s e).mono st fun a y e1 e2 => x2.keep a y e2 fun k z => ?_)
            obtain ⟨i', h1, _, e'⟩ := lentO_mem z
            have := r1.inj i' i a e' e1
            subst this
            exact hi h1) r1.free
      refine f _ _ _ _ _ (x1.trans ⟨keepO, x2.there, fun _ _ e => .inl e⟩) ⟨by rw [bk.1]; exact r1.len, bk.2.1, fun i h => r1.out i (by rw [bk.1] at h; exact h), r1.inj, fun a h => x2.there a (r1.low a h), bk.2.2⟩ (rv.mono un) (fun z => by cases z) q2
    · cases q2
  · cases q
end
end G
namespace G
open PySem PySem.Spec PyProof.Rows L2

/-- an iterator walks these items as long as P stands -/
structure Walk (K : PySem.W.Frag) (J : It) (items : List AV) (P : (Addr → Prop) → Hp → Prop) : Prop where
  mono : ∀ A H A' H', P A H → (∀ a x, H a = some x → ¬ A a → H' a = some x ∧ ¬ A' a) → P A' H'
  go : ∀ A H i, P A H → i < items.length → J.go i H
  stop : ∀ A H, P A H → J.stop items.length H
  yld : ∀ A H i x H', P A H → i < items.length → J.yld i H x H' → ∃ d, items[i]? = some d ∧ PostP K A H false d x H'

section
variable {K : PySem.W.Frag} {B : Addr → Prop} {W W' : Nat → Prop} {o o1 o2 o' : Nat → Option Addr} {H H1 H2 H' : Hp} {σ σ' : St} {ρ ρ' : Env} {C : Handler}

theorem wipe_get {σ : St} {j : Nat} : ∀ {vs : List Nat}, (wipe σ vs)[j]? = if j ∈ vs ∧ j < σ.length then some none else σ[j]?
  | [] => by simp [wipe]
  | v :: vs => by
    unfold wipe
    by_cases h : v = j
    · subst h
      by_cases hl : v < σ.length
      · rw [List.getElem?_set_self (by rw [wipe_length]; exact hl)]
        simp [hl]
      · rw [List.getElem?_eq_none (by rw [List.length_set, wipe_length]; omega), if_neg (fun z => hl z.2), List.getElem?_eq_none (by omega)]
    · rw [List.getElem?_set_ne h, wipe_get (vs := vs)]
      have : (j ∈ v :: vs) ↔ j ∈ vs := by simp [Ne.symm h]
      simp only [this]
theorem wipeS_length {ρ : Env} : ∀ {vs : List Nat}, (wipeS vs ρ).length = ρ.length
  | [] => rfl
  | v :: vs => by unfold wipeS; rw [List.length_set, wipeS_length]
theorem wipeS_get {ρ : Env} {j : Nat} : ∀ {vs : List Nat}, (wipeS vs ρ)[j]? = if j ∈ vs ∧ j < ρ.length then some .none else ρ[j]?
  | [] => by simp [wipeS]
  | v :: vs => by
    unfold wipeS
    by_cases h : v = j
    · subst h
      by_cases hl : v < ρ.length
      · rw [List.getElem?_set_self (by rw [wipeS_length]; exact hl)]
        simp [hl]
      · rw [List.getElem?_eq_none (by rw [List.length_set, wipeS_length]; omega), if_neg (fun z => hl z.2), List.getElem?_eq_none (by omega)]
    · rw [List.getElem?_set_ne h, wipeS_get (vs := vs)]
      have : (j ∈ v :: vs) ↔ j ∈ vs := by simp [Ne.symm h]
      simp only [this]
theorem restore_length {old ρ : Env} : ∀ {vs : List Nat}, (restore old vs ρ).length = ρ.length
  | [] => rfl
  | v :: vs => by unfold restore; rw [List.length_set, restore_length]
theorem restore_get {old ρ : Env} {j : Nat} : ∀ {vs : List Nat}, (restore old vs ρ)[j]? = if j ∈ vs ∧ j < ρ.length then some (old.getD j .none) else ρ[j]?
  | [] => by simp [restore]
  | v :: vs => by
    unfold restore
    by_cases h : v = j
    · subst h
      by_cases hl : v < ρ.length
      · rw [List.getElem?_set_self (by rw [restore_length]; exact hl)]
        simp [hl]
      · rw [List.getElem?_eq_none (by rw [List.length_set, restore_length]; omega), if_neg (fun z => hl z.2), List.getElem?_eq_none (by omega)]
    · rw [List.getElem?_set_ne h, restore_get (vs := vs)]
      have : (j ∈ v :: vs) ↔ j ∈ vs := by simp [Ne.symm h]
      simp only [this]
/-- the frame with some slots unknown -/
theorem Rep.wiped {vs : List Nat} (r : Rep K B o σ H ρ) (hw : ∀ i, i ∈ vs → o i = none) : Rep K B o (wipe σ vs) H (wipeS vs ρ) where
  len := by rw [wipe_length, wipeS_length]; exact r.len
  slot := fun j s e => by
    rw [wipeS_get] at e
    rw [wipe_get, ← r.len]
    split at e
    · rename_i h
      cases e
      rw [if_pos h, hw j h.1]; exact .none
    · rename_i h
      rw [if_neg h]; exact r.slot j s e
  out := fun j h => r.out j (by rw [wipeS_length] at h; exact h)
  inj := r.inj
  low := r.low
  free := fun j s a e1 e2 e3 => by
    rw [wipeS_get] at e1
    split at e1
    · rename_i h
      rw [hw j h.1] at e2; cases e2
    · exact r.free j s a e1 e2 e3
theorem wipe_wipe {vs : List Nat} : wipe (wipe σ vs) vs = wipe σ vs := by
  apply List.ext_getElem?
  intro j
  rw [wipe_get, wipe_length, wipe_get]
  split <;> rfl
/-- a slot is bound to a value -/
theorem Rep.bind {i : Nat} {d : AV} {v : V} (r : Rep K B o σ H ρ) (hi : i < ρ.length) (hr : RV K (Av B o) H d v) : Rep K B (drop o i) (σ.set i (some v)) H (ρ.set i (.val d)) where
  len := by rw [List.length_set, List.length_set]; exact r.len
  slot := fun j s e => by
    by_cases h : j = i
    · subst h
      rw [List.getElem?_set_self hi] at e; cases e
      rw [List.getElem?_set_self (by rw [← r.len]; exact hi), show drop o j j = none by unfold drop; rw [if_pos rfl]]
      exact .val (hr.mono stay_drop)
    · rw [List.getElem?_set_ne (Ne.symm h)] at e
      rw [List.getElem?_set_ne (Ne.symm h), show drop o i j = o j by unfold drop; rw [if_neg h]]
      exact (r.slot j s e).mono stay_drop fun _ _ _ e => e
  out := fun j h => by
    unfold drop
    split
    · rfl
    · exact r.out j (by rw [List.length_set] at h; exact h)
  inj := fun a b c h1 h2 => r.inj a b c (drop_le h1) (drop_le h2)
  low := r.low
  free := fun j s a e1 e2 e3 => by
    by_cases h : j = i
    · subst h
      unfold drop at e2
      rw [if_pos rfl] at e2; cases e2
    · rw [List.getElem?_set_ne (Ne.symm h)] at e1
      exact r.free j s a e1 (drop_le e2) e3

/-- targets -/
def gSlots (K : PySem.W.Frag) : Tgt → TG
  | .nm i => gName i
  | .tp is => fun v σ H Q => ∃ a xs, v = .ref a ∧ SqT K H a xs ∧ xs.length = is.length ∧ Q ((is.zip xs).foldl (fun σ p => σ.set p.1 (some p.2)) σ) H
theorem setAll_ok : ∀ {is : List Nat} {ds : List AV} {xs : List V} {ρ ρ' : Env} {σ : St} {o : Nat → Option Addr}, Rep K B o σ H ρ → RVs K (Av B o) H ds xs → setAll is ds ρ = some ρ' →
    is.length = xs.length ∧ ∃ o', Ext0 o H o' H ∧ Rep K B o' ((is.zip xs).foldl (fun σ p => σ.set p.1 (some p.2)) σ) H ρ' ∧ ∀ j, j ∈ is → o' j = none
  | [], [], xs, ρ, ρ', σ, o, r, rs, e => by cases rs; cases e; exact ⟨rfl, o, .refl, r, fun j h => by cases h⟩
  | [], _ :: _, _, _, _, _, _, _, _, e => by cases e
  | _ :: _, [], _, _, _, _, _, _, _, e => by cases e
  | i :: is, d :: ds, xs, ρ, ρ', σ, o, r, rs, e => by
    cases rs with
    | cons a b =>
      rw [setAll] at e
      split at e
      · rename_i hi
        obtain ⟨h1, o', x, r', hn⟩ := setAll_ok (r.bind hi a) (b.mono stay_drop) e
        refine ⟨by simp [h1], o', ext_drop.trans x, r', fun j hj => ?_⟩
        rcases List.mem_cons.mp hj with hj | hj
        · cases q : o' j with
          | none => rfl
          | some c =>
            rcases x.own j c q with z | ⟨z, _⟩
            · rw [hj] at z
              unfold drop at z
              rw [if_pos rfl] at z; cases z
            · exact z.elim
        · exact hn j hj
      · cases e
theorem assign_ok {t : Tgt} {d : AV} {v : V} {Q : St → Hp → Prop} (r : Rep K B o σ H ρ) (rv : RV K (Av B o) H d v) (e : assign t d ρ = some ρ')
    (h : ∀ o' σ', Ext0 o H o' H → Rep K B o' σ' H ρ' → (∀ j, j ∉ t.slots → σ'[j]? = σ[j]?) → σ'.length = σ.length → (∀ j, j ∈ t.slots → o' j = none) → Q σ' H) : gSlots K t v σ H Q := by
  cases t with
  | nm i =>
    rw [assign] at e
    split at e
    · rename_i hi
      cases e
      exact h _ _ ext_drop (r.bind hi rv) (fun j hj => List.getElem?_set_ne (fun z => hj (by rw [z]; exact List.mem_singleton.mpr rfl))) (List.length_set ..) (fun j hj => by
        rw [List.mem_singleton.mp hj]
        unfold drop; rw [if_pos rfl])
    · cases e
  | tp is =>
    cases d with
    | tuple ds =>
      obtain ⟨a, xs, rfl, sq, rs⟩ := rv.tuple
      obtain ⟨h1, o', x, r', hn⟩ := setAll_ok r rs e
      refine ⟨a, xs, rfl, sq, h1.symm, h _ _ x r' (fun j hj => ?_) ?_ hn⟩
      · have key : ∀ (z : List (Nat × V)) (σ : St), (∀ p, p ∈ z → p.1 ≠ j) → (z.foldl (fun σ p => σ.set p.1 (some p.2)) σ)[j]? = σ[j]? := by
          intro z
          induction z with
          | nil => intro σ _; rfl
          | cons p z ih =>
            intro σ hz'
            rw [List.foldl_cons, ih _ (fun q hq => hz' q (List.mem_cons_of_mem _ hq)), List.getElem?_set_ne (hz' p List.mem_cons_self)]
        exact key _ _ fun p hp q => hj (by rw [← q]; exact (List.of_mem_zip hp).1)
      · rw [r'.len.symm.trans ?_]
        have : ∀ {is : List Nat} {ds : List AV} {ρ ρ' : Env}, setAll is ds ρ = some ρ' → ρ'.length = ρ.length := by
          intro is
          induction is with
          | nil => intro ds ρ ρ' e; cases ds <;> cases e; rfl
          | cons i is ih =>
            intro ds ρ ρ' e
            cases ds with
            | nil => cases e
            | cons d ds =>
              rw [setAll] at e
              split at e
              · rw [ih e, List.length_set]
              · cases e
        rw [this e]; exact r.len
    | _ => cases e

/-- tests of a clause -/
def TCr (K : PySem.W.Frag) (C : Handler) (cs : Es) : TT := fun σ H Q => ∃ B o ρ Kb, Rep K B o σ H ρ ∧ wpCs C cs ρ Kb = true ∧ FinT K B o σ H Kb Q
theorem TCr.nilR {Q : Bool → Hp → Prop} (h : TCr K C .nil σ H Q) : tYes σ H Q := by
  obtain ⟨B, o, ρ, Kb, r, w, f⟩ := h
  exact f _ _ _ _ .refl r w
theorem TCr.oneR {c : E} {Q : Bool → Hp → Prop} (h : TCr K C (.cons c .nil) σ H Q) : TTr K C c σ H Q := by
  obtain ⟨B, o, ρ, Kb, r, w, f⟩ := h
  refine ⟨B, o, ρ, Kb, r, ?_, f⟩
  rw [wpCs] at w
  have e : (fun (v : AV) (ρ1 : Env) => match truthy v with | some true => wpCs C .nil ρ1 Kb | some false => Kb false ρ1 | none => false) = tst Kb := by
    funext v ρ
    unfold tst
    cases truthy v with
    | none => rfl
    | some b => cases b <;> simp [wpCs]
  exact (congrArg (fun k => wpE C c ρ k = true) e).mp w

/-- the source of a loop, by values: WR hands over an iterator -/
def SrcOk (K : PySem.W.Frag) (k : SrcK) (WR : List V → Hp → (It → Hp → Prop) → Prop) : Prop :=
  ∀ (A : Addr → Prop) (H : Hp) ds vs items (R : It → Hp → Prop), RVs K A H ds vs → srcS k ds = some items → (∀ J P, Walk K J items P → P A H → R J H) → WR vs H R

/-- an object that nothing leans on is changed -/
theorem Rep.touch {D : Addr} {x : HO} (r : Rep K B o σ H ρ) (hB : B D) (hn : ∀ i, o i ≠ some D) : Rep K B o σ (upd H D x) ρ where
  len := r.len
  slot := fun i s e => (r.slot i s e).mono (fun b y e n => ⟨by rw [upd_ne (fun q => n (.inl (by rw [q]; exact hB)))]; exact e, n⟩) fun a y e1 e2 => by rw [upd_ne (fun q => hn i (by rw [e1, q]))]; exact e2
  out := r.out
  inj := r.inj
  low := fun a h => by
    by_cases e : a = D
    · rw [e, upd_same]; simp
    · rw [upd_ne e]; exact r.low a h
  free := r.free


theorem wipe_eq {vs : List Nat} {σ2 : St} (h : ∀ j, j ∉ vs → σ2[j]? = (wipe σ vs)[j]?) (hl : σ2.length = (wipe σ vs).length) : wipe σ2 vs = wipe σ vs := by
  apply List.ext_getElem?
  intro j
  rw [wipe_length] at hl
  rw [wipe_get, hl]
  by_cases hj : j ∈ vs
  · rw [wipe_get]
    by_cases hlt : j < σ.length
    · rw [if_pos ⟨hj, hlt⟩, if_pos ⟨hj, hlt⟩]
    · rw [if_neg (fun z => hlt z.2), if_neg (fun z => hlt z.2), List.getElem?_eq_none (by omega), List.getElem?_eq_none (by omega)]
  · rw [if_neg (fun z => hj z.1), h j hj]

/-- what stands at a turn of a comprehension's loop -/
structure CompSt (K : PySem.W.Frag) (B : Addr → Prop) (σ : St) (t : Tgt) (P : (Addr → Prop) → Hp → Prop) (D : Addr) (o : Nat → Option Addr) (H : Hp) (i : Nat) (oi : Nat → Option Addr) (Hi : Hp) (ρi : Env) (ds : List AV) (xs : List V) : Prop where
  rep : Rep K (Bp B D) oi (wipe σ t.slots) Hi (wipeS t.slots ρi)
  src : P (Av (Bp B D) oi) Hi
  own : ∀ j a, oi j = some a → o j = some a
  keep : ∀ a x, H a = some x → (∀ i, o i ≠ some a) → a ≠ D → Hi a = some x
  there : ∀ a, H a ≠ none → Hi a ≠ none
  atD : Hi D = some (.lst xs)
  rvs : RVs K (Av (Bp B D) oi) Hi ds xs
  le : ds.length ≤ i

/-- the loop of a comprehension -/
theorem loop_ok {t : Tgt} {cs : Es} {elt : E} {J : It} {items : List AV} {P : (Addr → Prop) → Hp → Prop} {Kl : List AV → Env → Bool} {D : Addr} {Qd : Hp → Prop} {ρ0 : Env} (wk : Walk K J items P) (hsz : items.length ≤ sz)
    (c0 : CompSt K B σ t P D o H 0 o H ρ0 [] []) (nD : ∀ i, o i ≠ some D)
    (w : loopC (fun x ρ => assign t x (wipeS t.slots ρ)) (fun ρ K => wpCs C cs ρ K) (fun ρ K => wpE C elt ρ K) Kl items [] ρ0 = true)
    (fin : ∀ oi Hi ρi ds xs, CompSt K B σ t P D o H items.length oi Hi ρi ds xs → Kl ds ρi = true → Qd Hi) :
    ∃ W : Nat → Nat → Hp → Prop, (∃ m, W 0 m H) ∧ ∀ i m H, W i m H →
      (J.stop i H ∧ Qd H) ∨ (J.go i H ∧ ∃ Nx : Hp → Prop, (∀ H', Nx H' → ∃ m', m' < m ∧ W (i + 1) m' H') ∧ ∀ x H', J.yld i H x H' → gSlots K t x (wipe σ t.slots) H' fun σ2 H2 => wipe σ2 t.slots = wipe σ t.slots ∧
        TCr K C cs σ2 H2 fun b H3 => if b = true then TEr K C elt σ2 H3 fun y H4 => ∃ acc, H4 D = some (.lst acc) ∧ acc.length < sizeLine ∧ Nx (upd H4 D (.lst (acc ++ [y]))) else Nx H3) := by
  refine ⟨fun i m Hi => m = items.length - i ∧ i ≤ items.length ∧ ∃ oi ρi ds xs, CompSt K B σ t P D o H i oi Hi ρi ds xs ∧
      loopC (fun x ρ => assign t x (wipeS t.slots ρ)) (fun ρ K => wpCs C cs ρ K) (fun ρ K => wpE C elt ρ K) Kl (items.drop i) ds ρi = true,
    ⟨items.length, rfl, Nat.zero_le _, o, ρ0, [], [], c0, by simpa using w⟩, ?_⟩
  rintro i m Hi ⟨rfl, hi, oi, ρi, ds, xs, c, wi⟩
  by_cases hlt : i < items.length
  · refine .inr ⟨wk.go _ _ _ c.src hlt, _, fun H' h => ⟨items.length - (i + 1), by omega, rfl, hlt, h⟩, fun x H1 y => ?_⟩
    obtain ⟨d, hd, post⟩ := wk.yld _ _ _ _ _ c.src hlt y
    obtain ⟨x1, r1, rv1, _⟩ := prim_step c.rep post
    have hdrop : items.drop i = d :: items.drop (i + 1) := by
      rw [List.drop_eq_getElem_cons hlt]
      have : items[i] = d := by
        have := List.getElem?_eq_getElem hlt
        rw [this] at hd; exact Option.some.inj hd
      rw [this]
    rw [hdrop, loopC] at wi
    cases ea : assign t d (wipeS t.slots ρi) with
    | none => rw [ea] at wi; cases wi
    | some ρ1 =>
      rw [ea] at wi
      simp only at wi
      refine assign_ok r1 rv1 ea fun o2 σ2 x2 r2 hσ hσl hn => ?_
      have hw := wipe_eq hσ hσl
      refine ⟨hw, ?_⟩
      -- the state behind any step of the turn
      have cs3 : ∀ {o3 H3 ρ3}, Ext0 o2 H1 o3 H3 → Rep K (Bp B D) o3 σ2 H3 ρ3 → CompSt K B σ t P D o H (i + 1) o3 H3 ρ3 ds xs := fun {o3 H3 ρ3} x3 r3 => by
        have xa : Ext0 oi Hi o3 H3 := x1.trans (x2.trans x3)
        have nDi : ∀ j, oi j ≠ some D := fun j z => nD j (c.own j D z)
        have o3n : ∀ j, j ∈ t.slots → o3 j = none := fun j hj => by
          cases q : o3 j with
          | none => rfl
          | some a =>
            rcases x3.own j a q with z | ⟨z, _⟩
            · rw [hn j hj] at z; cases z
            · exact z.elim
        refine ⟨hw ▸ r3.wiped o3n, wk.mono _ _ _ _ c.src xa.stay, fun j a e => ?_, fun a x e n1 n2 => xa.keep a x (c.keep a x e n1 n2) fun j z => n1 j (c.own j a z), fun a h => xa.there a (c.there a h), xa.keep _ _ c.atD nDi, xa.rvs c.rvs, Nat.le_succ_of_le c.le⟩
        rcases xa.own j a e with z | ⟨z, _⟩
        · exact c.own j a z
        · exact z.elim
      refine ⟨Bp B D, o2, ρ1, _, r2, wi, fun o3 H3 ρ3 b x3 r3 q3 => ?_⟩
      cases b with
      | false => exact ⟨o3, ρ3, ds, xs, cs3 x3 r3, q3⟩
      | true =>
        refine ⟨Bp B D, o3, ρ3, _, r3, q3, fun o4 H4 ρ4 e v x4 r4 rv4 _ q4 => ?_⟩
        have c4 := cs3 (x3.trans x4) r4
        have hds : ds.length < items.length := Nat.lt_of_le_of_lt c.le hlt
        have nD4 : ∀ j, o4 j ≠ some D := fun j z => nD j (c4.own j D z)
        have st : ∀ b y, H4 b = some y → ¬ Av (Bp B D) o4 b → upd H4 D (.lst (xs ++ [v])) b = some y ∧ ¬ Av (Bp B D) o4 b := fun b y e n =>
          ⟨by rw [upd_ne (fun q => n (.inl (.inr q)))]; exact e, n⟩
        refine ⟨xs, c4.atD, ?_, o4, ρ4, ds ++ [e], xs ++ [v], ?_, q4⟩
        · rw [← c.rvs.length, sizeLine_eq]
          exact Nat.lt_of_lt_of_le hds hsz
        · refine ⟨c4.rep.touch (.inr rfl) nD4, wk.mono _ _ _ _ c4.src st, c4.own, fun a x e1 n1 n2 => by rw [upd_ne n2]; exact c4.keep a x e1 n1 n2, fun a h => ?_, upd_same, (c4.rvs.append (.cons rv4 .nil)).mono st, ?_⟩
          · by_cases e : a = D
            · rw [e, upd_same]; simp
            · rw [upd_ne e]; exact c4.there a h
          · rw [List.length_append]
            exact Nat.succ_le_succ c.le
  · have e : i = items.length := by omega
    subst e
    refine .inl ⟨wk.stop _ _ c.src, ?_⟩
    rw [List.drop_length, loopC] at wi
    exact fin oi Hi ρi ds xs c wi

theorem wipeable_none {i : Nat} (r : Rep K B o σ H ρ) (h : wipeable i ρ = true) : o i = none ∧ i < ρ.length ∧ (ρ[i]? = some .none ∨ ∃ d, ρ[i]? = some (.val d)) := by
  unfold wipeable at h
  cases q : ρ[i]? with
  | none => rw [q] at h; cases h
  | some s =>
    have hi := (List.getElem?_eq_some_iff.mp q).1
    rw [q] at h
    cases s with
    | none =>
      have sr := r.slot i _ q
      generalize σ[i]? = sv at sr
      generalize hoa : o i = oa at sr
      cases sr with
      | none => exact ⟨rfl, hi, .inl rfl⟩
      | own e c => cases c
    | val d =>
      have sr := r.slot i _ q
      generalize σ[i]? = sv at sr
      generalize hoa : o i = oa at sr
      cases sr with
      | val rv => exact ⟨rfl, hi, .inr ⟨d, rfl⟩⟩
      | own e c => cases c
    | _ => cases h
theorem TEr.compR {k : SrcK} {es cs : Es} {t : Tgt} {elt : E} {WR : List V → Hp → (It → Hp → Prop) → Prop} {Q : VK} (hs : SrcOk K k WR) (h : TEr K C (.comp k es t cs elt) σ H Q) :
    TAr K C false es σ H fun vs H1 => WR vs H1 fun J H1 => ∀ D, H1 D = none → ∃ W : Nat → Nat → Hp → Prop, (∃ m, W 0 m (upd H1 D (.lst []))) ∧ ∀ i m H, W i m H →
      (J.stop i H ∧ Q (.ref D) H) ∨ (J.go i H ∧ ∃ Nx : Hp → Prop, (∀ H', Nx H' → ∃ m', m' < m ∧ W (i + 1) m' H') ∧ ∀ x H', J.yld i H x H' → gSlots K t x (wipe σ t.slots) H' fun σ2 H2 => wipe σ2 t.slots = wipe σ t.slots ∧
        TCr K C cs σ2 H2 fun b H3 => if b = true then TEr K C elt σ2 H3 fun y H4 => ∃ acc, H4 D = some (.lst acc) ∧ acc.length < sizeLine ∧ Nx (upd H4 D (.lst (acc ++ [y]))) else Nx H3) := by
  obtain ⟨B, o, ρ, Kc, r, w, f⟩ := h
  rw [wpE] at w
  refine ⟨B, o, ρ, _, r, w, fun o1 H1 ρ1 ds vs x1 r1 ra q => ?_⟩
  cases hi : srcS k ds with
  | none => rw [hi] at q; cases q
  | some items =>
    rw [hi] at q
    simp only at q
    split at q
    · rename_i hc
      rw [Bool.and_eq_true, List.all_eq_true, decide_eq_true_eq] at hc
      obtain ⟨hw, hsz⟩ := hc
      refine hs _ _ _ _ _ _ ra hi fun J P wk p1 D hD => ?_
      have nD : ∀ i, o1 i ≠ some D := fun i z => r1.some_own z hD
      have on : ∀ j, j ∈ t.slots → o1 j = none := fun j hj => (wipeable_none r1 (hw j hj)).1
      refine loop_ok wk hsz (o := o1) (B := B) (ρ0 := ρ1) ⟨(r1.laid hD).wiped on, wk.mono _ _ _ _ p1 (stay_laid hD), fun _ _ e => e, fun _ _ e _ _ => e, fun _ h => h, upd_same, .nil, Nat.le_refl _⟩ nD q fun oi Hi ρi ds xs c qk => ?_
      -- behind the loop
      have nDi : ∀ j, oi j ≠ some D := fun j z => nD j (c.own j D z)
      have xl : Ext0 o1 H1 oi Hi := ⟨fun a x e n => c.keep a x (upd_old hD e) n (ne_of_none e hD), fun a h => c.there a (by
        cases q : H1 a with
        | none => exact absurd q h
        | some y => rw [upd_old hD q]; simp), fun j a e => .inl (c.own j a e)⟩
      have hlen : ρi.length = ρ1.length := by
        have e1 := c.rep.len
        rw [wipe_length, wipeS_length] at e1
        rw [e1, r1.len]
      have rR : Rep K (Bp B D) oi σ Hi (restore ρ1 t.slots ρi) := by
        refine ⟨by rw [restore_length, hlen]; exact r1.len, fun j s e => ?_, fun j h => c.rep.out j (by rw [wipeS_length]; rw [restore_length] at h; exact h), c.rep.inj, c.rep.low, fun j s a e1 e2 e3 => ?_⟩
        · rw [restore_get] at e
          by_cases hj : j ∈ t.slots ∧ j < ρi.length
          · rw [if_pos hj] at e
            obtain ⟨h1, h2, h3⟩ := wipeable_none r1 (hw j hj.1)
            have oij : oi j = none := by
              cases q : oi j with
              | none => rfl
              | some a => have := c.own j a q; rw [h1] at this; cases this
            have eg : ρ1[j]? = some s := by
              rw [← e, List.getD_eq_getElem?_getD]
              rcases h3 with h3 | ⟨d, h3⟩ <;> rw [h3] <;> rfl
            have sr := r1.slot j s eg
            rw [h1] at sr
            rw [oij]
            refine sr.mono (fun b x e n => ⟨(xl.stay b x e n).1, fun z => ?_⟩) fun a x z => by cases z
            rcases av_bp.mp z with z | z
            · exact (xl.stay b x e n).2 z
            · subst z; rw [hD] at e; cases e
          · rw [if_neg hj] at e
            have hj2 : j ∉ t.slots := fun z => hj ⟨z, (List.getElem?_eq_some_iff.mp e).1⟩
            have sr := c.rep.slot j s (by rw [wipeS_get, if_neg (fun z => hj2 z.1)]; exact e)
            rw [wipe_get, if_neg (fun z => hj2 z.1)] at sr
            exact sr
        · rw [restore_get] at e1
          by_cases hj : j ∈ t.slots ∧ j < ρi.length
          · have := c.own j a e2
            rw [on j hj.1] at this; cases this
          · rw [if_neg hj] at e1
            have hj2 : j ∉ t.slots := fun z => hj ⟨z, (List.getElem?_eq_some_iff.mp e1).1⟩
            exact c.rep.free j s a (by rw [wipeS_get, if_neg (fun z => hj2 z.1)]; exact e1) e2 e3
      have nB : ¬ Av B oi D := fun z => by
        rcases z with z | ⟨j, z⟩
        · exact r1.low D z hD
        · exact nDi j z
      have H0D : H D = none := by
        cases q : H D with
        | none => rfl
        | some y => exact absurd hD (x1.there D (by rw [q]; simp))
      exact f _ _ _ _ _ (x1.trans xl) rR.unBp (.lst c.atD nB (c.rvs.mono fun b y e n => ⟨e, fun z => n (av_bp.mpr (.inl z))⟩)) (fun _ => ⟨D, _, rfl, H0D, nDi, c.atD, rR, .lst c.rvs⟩) qk
    · cases q
end
end G
namespace G
open PySem PySem.Spec PyProof.Rows L2

/-! lists and tuples alike: k tells which -/
def SqK (k : Bool) (K : PySem.W.Frag) (H : Hp) (a : Addr) (xs : List V) : Prop := match k with
  | true => SqL K H a xs
  | false => SqT K H a xs
def IsSq (k : Bool) (h : Heap) (a : Addr) (items : Array Value) : Prop := match k with
  | true => h.IsList a items
  | false => h.IsTuple a items
def IsIt (k : Bool) (h : Heap) (it a : Addr) (i : Nat) : Prop := match k with
  | true => h.IsListIter it a i
  | false => h.IsTupleIter it a i
def itObj (k : Bool) (a : Addr) : Obj := match k with
  | true => { cls := .type "list_iterator", data := .fields #[.ref a, .int 0 0] }
  | false => { cls := .type "tuple_iterator", data := .fields #[.ref a, .int 0 0] }
section
variable {X : Cx} {pins : List (Addr × Obj)} {σ : St} {H : Hp} {s : Shared} {a b : Addr} {k : Bool} {xs ys : List V} {h h' : Heap} {it : Addr} {i : Nat}
theorem inv_sq (I : Inv X pins σ H s) (h : SqK k X.K H a xs) : ∃ its : List Value, Vals xs its ∧ IsSq k s.heap a its.toArray := by
  cases k with
  | true => obtain ⟨its, r, p, _⟩ := I.list h; exact ⟨its, r, p.isList⟩
  | false => obtain ⟨its, r, p, _⟩ := I.tuple h; exact ⟨its, r, p⟩
theorem inv_sq_inj (I : Inv X pins σ H s) (h : SqK k X.K H a xs) (h' : SqK k X.K H a ys) : xs = ys := by
  cases k with
  | true => exact I.list_inj h h'
  | false => exact I.tuple_inj h h'
theorem IsIt.obj (p : IsIt k h it a i) : ∃ o, h.get? it = some o ∧ (o.cls = .type "list_iterator" ∨ o.cls = .type "tuple_iterator") ∧ ∀ v, o.data ≠ .cell v := by
  cases k with
  | true => obtain ⟨o, e, c, d⟩ := p; exact ⟨o, e, .inl c, fun v q => by rw [d] at q; cases q⟩
  | false => obtain ⟨o, e, c, d⟩ := p; exact ⟨o, e, .inr c, fun v q => by rw [d] at q; cases q⟩
theorem IsIt.lt (p : IsIt k h it a i) : it < h.objs.size := by obtain ⟨_, e, _⟩ := p.obj; exact Heap.lt_size e
theorem IsIt.at (p : IsIt k h it a i) (q : ∀ o, h.get? it = some o → h'.get? it = some o) : IsIt k h' it a i := by
  cases k with
  | true => exact Heap.IsListIter.at (show h.IsListIter it a i from p) q
  | false => exact Heap.IsTupleIter.at (show h.IsTupleIter it a i from p) q
theorem IsSq.obj {items : Array Value} (p : IsSq k h a items) : ∃ o, h.get? a = some o ∧ (o.cls = .type "list" ∨ o.cls = .type "tuple") := by
  cases k with
  | true => obtain ⟨o, e, c, d⟩ := p; exact ⟨o, e, .inl c⟩
  | false => obtain ⟨o, e, c, d⟩ := p; exact ⟨o, e, .inr c⟩
theorem IsSq.lt {items : Array Value} (p : IsSq k h a items) : a < h.objs.size := by obtain ⟨_, e, _⟩ := p.obj; exact Heap.lt_size e
theorem ty_ne {x y : String} (h : x ≠ y) : Value.type x ≠ Value.type y := fun z => h (by injection z)
theorem IsSq.ne {items : Array Value} {o : Obj} (p : IsSq k h a items) (e : h.get? b = some o) (h1 : o.cls ≠ .type "list") (h2 : o.cls ≠ .type "tuple") : a ≠ b := fun z => by
  obtain ⟨o', e', c⟩ := p.obj
  rw [z, e] at e'
  cases e'
  exact c.elim h1 h2
theorem IsSq.ne_it {items : Array Value} {k' : Bool} {c : Addr} (p : IsSq k h a items) (q : IsIt k' h it c i) : a ≠ it := by
  obtain ⟨o, e, hc, _⟩ := q.obj
  refine p.ne e ?_ ?_ <;> rcases hc with z | z <;> rw [z] <;> exact ty_ne (by decide)
theorem draws_sq {prog : Program} {w : World} {A : Around} (hh : A.handled = none) (it a : Addr) (hne : a ≠ it) (items : Array Value) :
    Draws prog w A it [it, a] items.size (fun i v => items[i]? = some v) (fun i h => IsIt k h it a i ∧ IsSq k h a items) := by
  cases k with
  | true => exact Draws.list hh it a hne items
  | false => exact Draws.tuple hh it a hne items
theorem begins_sq (a : Addr) (items : Array Value) : Begins (.ref a) (itObj k a) fun h => IsSq k h a items := by
  cases k with
  | true => exact begins_list a items
  | false => exact begins_tuple a items
theorem it_new (e : h.get? it = some (itObj k a)) : IsIt k h it a 0 := by
  cases k with
  | true => exact ⟨_, e, rfl, rfl⟩
  | false => exact ⟨_, e, rfl, rfl⟩
end

/-- enumerate -/
def ItE (k : Bool) (K : PySem.W.Frag) (a : Addr) : It :=
  ⟨fun i H => ∃ (xs : List V) (x : V), SqK k K H a xs ∧ xs[i]? = some x, fun i H v H' => ∃ T x, v = .ref T ∧ H T = none ∧ H' = upd H T (.tup [.int (i : Nat), x]) ∧ ∀ xs, SqK k K H a xs → xs[i]? = some x, fun i H => ∃ xs : List V, SqK k K H a xs ∧ xs.length = i⟩
theorem turn_enumK {P : Program} {w : World} {K : PySem.W.Frag} {k : Bool} {elts : List Expr} {kk : Nat} {tpos : Pos} (a e it : Addr) :
    Turn P w K (.Tuple elts kk tpos) (ItE k K a) [e, it] e (fun i h => (∃ old, IsEnum h e it (0 + ((i : Nat) : Int)) old) ∧ IsIt k h it a i ∧ e ≠ it) where
  mem := by simp
  obj := fun i h st b hb => by
    obtain ⟨⟨old, he⟩, hi, _⟩ := st
    obtain ⟨o, ho, _, hd⟩ := hi.obj
    have e' : b = e ∨ b = it := by simpa using hb
    rcases e' with z | z
    · rw [z]; exact ⟨_, he, fun v q => nomatch q⟩
    · rw [z]; exact ⟨o, ho, hd⟩
  keep := fun i h h' st k => let ⟨⟨old, he⟩, hi, hne⟩ := st; ⟨⟨old, k e (by simp) _ he⟩, hi.at fun o q => k it (by simp) o q, hne⟩
  item := by
    intro X hP hw hK hc i pins s σ H E I hf st hg
    subst hP hw hK
    obtain ⟨⟨old, he⟩, hit, hne⟩ := st
    obtain ⟨xs, x, hq, hx⟩ := hg
    obtain ⟨its, rv, p⟩ := inv_sq I hq
    obtain ⟨u, hu, ru⟩ := rv.get hx
    have hel : e < s.heap.objs.size := Heap.lt_size he
    have hil : it < s.heap.objs.size := hit.lt
    have hae : a ≠ e := p.ne he (ty_ne (by decide)) (ty_ne (by decide))
    have hai : a ≠ it := p.ne_it hit
    have hlt : i < its.toArray.size := by
      have : i < its.length := (List.getElem?_eq_some_iff.mp hu).1
      simpa using this
    refine wpAny_pyNext_enum_itemC (draws_sq (k := k) (prog := X.prog) (w := X.w) (A := X.A.in1) (I.ok.hd hc) it a hai its.toArray) he ⟨hit, p⟩ hlt hne (by simp; exact ⟨hne, Ne.symm hae⟩) fun y h' tk hy ho hst' hT hsz hk => ?_
    have ey : y = u := by
      have : its.toArray[i]? = some u := by simpa using hu
      rw [this] at hy; exact (Option.some.inj hy).symm
    subst ey
    refine ⟨_, rfl, wpAny_letOwnedTupleGo_enum (s := { s with heap := h', toks := tk + 1 }) ho fun h'' he' sb => ?_⟩
    have hT2 : h''.get? s.heap.objs.size = some { cls := .type "tuple", data := .seq #[.int (0 + (i : Int)) tk, y] } := (sb.2 _ (Nat.ne_of_gt hel)).trans hT
    have e0 : (0 + ((i : Nat) : Int)) = (i : Nat) := Int.zero_add _
    rw [e0] at hT2
    have new : ObjOk X.prog X.w (upd H s.heap.objs.size (.tup [.int (i : Nat), x])) h'' s.heap.objs.size (.tup [.int (i : Nat), x]) :=
      ⟨by show 2 ≤ sizeLine; decide, [.int i tk, y], .cons ⟨_, rfl⟩ (.cons ru .nil), ⟨_, hT2, rfl, _, rfl⟩⟩
    have I1 : Inv X pins σ (upd H s.heap.objs.size (.tup [.int (i : Nat), x])) { s with heap := h'', toks := tk + 1 } :=
      I.turnedNew (ch := [e, it]) (fun b ob hb q => (sb.2 b (fun z => hb (by simp [z]))).trans (hk b ob (fun z => hb (by simp [z])) (fun z => hb (by simp [z])) q)) hf (Nat.le_refl _) new
    refine ⟨.ref s.heap.objs.size, _, I1, rfl, ⟨_, x, rfl, I.hok.fresh (Nat.le_refl _), rfl, fun ys hy => by rw [inv_sq_inj I hy hq]; exact hx⟩, ⟨⟨y, ?_⟩, hst'.1.at fun o q => (sb.2 it (Ne.symm hne)).trans q, hne⟩, fun b hb => ?_⟩
    · have e1 : (0 + ((i + 1 : Nat) : Int)) = 0 + (i : Int) + 1 := by omega
      rw [e1]; exact he'
    · have hb' : b < s.heap.objs.size := by
        have e' : b = e ∨ b = it := by simpa using hb
        rcases e' with z | z
        · rw [z]; exact hel
        · rw [z]; exact hil
      rw [upd_ne (Nat.ne_of_lt hb')]
      exact (hf b hb).1
  done := by
    intro X hP hw hK hc i pins s σ H E I hf st hg
    subst hP hw hK
    obtain ⟨⟨old, he⟩, hit, hne⟩ := st
    obtain ⟨xs, hq, hx⟩ := hg
    obtain ⟨its, rv, p⟩ := inv_sq I hq
    obtain ⟨f0, f1, f2, f3, f4, f5⟩ := hf it (by simp)
    have hl := rv.length
    have hi : i = its.toArray.size := by simp; omega
    subst hi
    have hai : a ≠ it := p.ne_it hit
    exact wpAny_pyNext_enum_endD (draws_sq (k := k) (prog := X.prog) (w := X.w) (A := X.A.in1) (I.ok.hd hc) it a hai its.toArray) he ⟨hit, p⟩ fun h' eb => ⟨rfl, I.turned (t' := s.toks) (fun b o hb q => eb b o hb q) f0 f1 f3 f4 f5⟩
  self := fun A i s Q E st h => let ⟨⟨_, he⟩, _⟩ := st; wpAny_pyIter_enum he h

/-- zip of two -/
def ItZ (k k' : Bool) (K : PySem.W.Frag) (a b : Addr) : It :=
  ⟨fun i H => ∃ (xs ys : List V) (x y : V), SqK k K H a xs ∧ SqK k' K H b ys ∧ xs[i]? = some x ∧ ys[i]? = some y,
    fun i H v H' => ∃ T x y, v = .ref T ∧ H T = none ∧ H' = upd H T (.tup [x, y]) ∧ (∀ xs, SqK k K H a xs → xs[i]? = some x) ∧ ∀ ys, SqK k' K H b ys → ys[i]? = some y,
    fun i H => ∃ xs ys : List V, SqK k K H a xs ∧ SqK k' K H b ys ∧ i ≤ xs.length ∧ i ≤ ys.length ∧ (i = xs.length ∨ i = ys.length)⟩
/-- the zip's own cells are apart -/
structure ZA (z TI TO i1 i2 : Addr) : Prop where
  TIz : TI ≠ z
  TOz : TO ≠ z
  TITO : TI ≠ TO
  TIi1 : TI ≠ i1
  TIi2 : TI ≠ i2
  zi1 : z ≠ i1
  zi2 : z ≠ i2
  Ti1 : TO ≠ i1
  Ti2 : TO ≠ i2
  ii : i1 ≠ i2
theorem ne_add {n a b : Nat} (h : a ≠ b) : n + a ≠ n + b := by omega
theorem za_new (n : Nat) : ZA (n + 4) (n + 2) (n + 3) n (n + 1) :=
  ⟨ne_add (n := n) (by decide), ne_add (n := n) (by decide), ne_add (n := n) (by decide), ne_add (n := n) (a := 2) (b := 0) (by decide), ne_add (n := n) (by decide), ne_add (n := n) (a := 4) (b := 0) (by decide), ne_add (n := n) (by decide), ne_add (n := n) (a := 3) (b := 0) (by decide), ne_add (n := n) (by decide), ne_add (n := n) (a := 0) (b := 1) (by decide)⟩
section
variable {k k' : Bool} {h : Heap} {a b z TI TO i1 i2 : Addr} {i : Nat}
theorem zip_sepK (D : ZA z TI TO i1 i2) {items items2 : Array Value} {f0 x y : Value} (hz : IsZip h z TI TO f0) (hTO : PySem.IsPair h TO x y) (h1 : IsIt k h i1 a i) (h2 : IsIt k' h i2 b i) (p1 : IsSq k h a items) (p2 : IsSq k' h b items2)
    (na : a ≠ TO) (nb : b ≠ TO) : ZipSep2 z TI TO i1 i2 [i1, a] [i2, b] where
  TIz := D.TIz
  TOz := D.TOz
  TITO := D.TITO
  TIi1 := D.TIi1
  mem1 := by simp
  zf1 := by
    simp
    exact ⟨D.zi1, Ne.symm (p1.ne hz (ty_ne (by decide)) (ty_ne (by decide)))⟩
  Tf1 := by simp; exact ⟨D.Ti1, Ne.symm na⟩
  TIi2 := D.TIi2
  mem2 := by simp
  zf2 := by
    simp
    exact ⟨D.zi2, Ne.symm (p2.ne hz (ty_ne (by decide)) (ty_ne (by decide)))⟩
  Tf2 := by simp; exact ⟨D.Ti2, Ne.symm nb⟩
  sep1_2 := by simp; exact ⟨D.ii, Ne.symm (p2.ne_it h1)⟩
  sep2_1 := by simp; exact ⟨Ne.symm D.ii, Ne.symm (p1.ne_it h2)⟩
theorem turn_zipK {P : Program} {w : World} {K : PySem.W.Frag} {elts : List Expr} {kk : Nat} {tpos : Pos} (D : ZA z TI TO i1 i2) (na : a ≠ TO) (nb : b ≠ TO) :
    Turn P w K (.Tuple elts kk tpos) (ItZ k k' K a b) [z, TI, TO, i1, i2] z (fun i h => IsZip h z TI TO .none ∧ PySem.IsPair h TI (.ref i1) (.ref i2) ∧ (∃ x y, PySem.IsPair h TO x y) ∧ IsIt k h i1 a i ∧ IsIt k' h i2 b i) where
  mem := by simp
  obj := fun i h st c hc => by
    obtain ⟨hz, hTI, ⟨x, y, hTO⟩, h1, h2⟩ := st
    obtain ⟨o1, e1, _, d1⟩ := h1.obj
    obtain ⟨o2, e2, _, d2⟩ := h2.obj
    have e' : c = z ∨ c = TI ∨ c = TO ∨ c = i1 ∨ c = i2 := by simpa using hc
    rcases e' with q | q | q | q | q
    · rw [q]; exact ⟨_, hz, fun v q => nomatch q⟩
    · rw [q]; exact ⟨_, hTI, fun v q => nomatch q⟩
    · rw [q]; exact ⟨_, hTO, fun v q => nomatch q⟩
    · rw [q]; exact ⟨o1, e1, d1⟩
    · rw [q]; exact ⟨o2, e2, d2⟩
  keep := fun i h h' st k => by
    obtain ⟨hz, hTI, ⟨x, y, hTO⟩, h1, h2⟩ := st
    exact ⟨k z (by simp) _ hz, k TI (by simp) _ hTI, ⟨x, y, k TO (by simp) _ hTO⟩, h1.at fun o q => k i1 (by simp) o q, h2.at fun o q => k i2 (by simp) o q⟩
  item := by
    intro X hP hw hK hc i pins s σ H E I hf st hg
    subst hP hw hK
    obtain ⟨hz, hTI, ⟨x0, y0, hTO⟩, h1, h2⟩ := st
    obtain ⟨xs, ys, x, y, hqx, hqy, hx, hy⟩ := hg
    obtain ⟨its, rv, p⟩ := inv_sq I hqx
    obtain ⟨its2, rv2, p2⟩ := inv_sq I hqy
    obtain ⟨u, hu, ru⟩ := rv.get hx
    obtain ⟨u2, hu2, ru2⟩ := rv2.get hy
    have hzl : z < s.heap.objs.size := Heap.lt_size hz
    have lt1 : i < its.toArray.size := by simpa using (List.getElem?_eq_some_iff.mp hu).1
    have lt2 : i < its2.toArray.size := by simpa using (List.getElem?_eq_some_iff.mp hu2).1
    refine wpAny_pyNext_zipD2_item (zip_sepK D hz hTO h1 h2 p p2 na nb) (draws_sq (k := k) (prog := X.prog) (w := X.w) (A := X.A.in1) (I.ok.hd hc) i1 a (p.ne_it h1) its.toArray)
      (draws_sq (k := k') (prog := X.prog) (w := X.w) (A := X.A.in1) (I.ok.hd hc) i2 b (p2.ne_it h2) its2.toArray) hz hTI hTO ⟨h1, p⟩ ⟨h2, p2⟩ lt1 lt2 fun x1 x2 h' tk y1 y2 z' TO' h1' h2' hT hsz hk => ?_
    have ex : x1 = u := by
      have : its.toArray[i]? = some u := by simpa using hu
      rw [this] at y1; exact (Option.some.inj y1).symm
    have ey : x2 = u2 := by
      have : its2.toArray[i]? = some u2 := by simpa using hu2
      rw [this] at y2; exact (Option.some.inj y2).symm
    subst ex ey
    refine ⟨_, rfl, wpAny_letOwnedTupleGo_zip (s := { s with heap := h', toks := tk }) z' fun h'' z'' sb => ?_⟩
    have hT2 : h''.get? s.heap.objs.size = some { cls := .type "tuple", data := .seq #[x1, x2] } := (sb.2 _ (Nat.ne_of_gt hzl)).trans hT
    have new : ObjOk X.prog X.w (upd H s.heap.objs.size (.tup [x, y])) h'' s.heap.objs.size (.tup [x, y]) :=
      ⟨by show 2 ≤ sizeLine; decide, [x1, x2], .cons ru (.cons ru2 .nil), ⟨_, hT2, rfl, _, rfl⟩⟩
    have I1 : Inv X pins σ (upd H s.heap.objs.size (.tup [x, y])) { s with heap := h'', toks := tk } :=
      I.turnedNew (t' := tk) (ch := [z, TI, TO, i1, i2]) (fun c o hb q => (sb.2 c (fun q' => hb (by simp [q']))).trans (hk c o (fun q' => hb (by simp [q'])) (fun q' => hb (by simp [q'])) (fun q' => hb (by simp [q'])) (fun q' => hb (by simp [q'])) q)) hf (Nat.le_refl _) new
    refine ⟨.ref s.heap.objs.size, _, I1, rfl, ⟨_, x, y, rfl, I.hok.fresh (Nat.le_refl _), rfl, fun l hl => by rw [inv_sq_inj I hl hqx]; exact hx, fun l hl => by rw [inv_sq_inj I hl hqy]; exact hy⟩, ⟨z'', ?_, ⟨x1, x2, ?_⟩, ?_, ?_⟩, fun c hcm => ?_⟩
    · exact (sb.2 _ D.TIz).trans (hk _ _ D.TIz D.TITO D.TIi1 D.TIi2 hTI)
    · exact (sb.2 _ D.TOz).trans TO'
    · exact h1'.1.at fun o q => (sb.2 _ (Ne.symm D.zi1)).trans q
    · exact h2'.1.at fun o q => (sb.2 _ (Ne.symm D.zi2)).trans q
    · have hlt : c < s.heap.objs.size := by
        have e' : c = z ∨ c = TI ∨ c = TO ∨ c = i1 ∨ c = i2 := by simpa using hcm
        rcases e' with q | q | q | q | q
        · rw [q]; exact hzl
        · rw [q]; exact Heap.lt_size hTI
        · rw [q]; exact Heap.lt_size hTO
        · rw [q]; exact h1.lt
        · rw [q]; exact h2.lt
      rw [upd_ne (Nat.ne_of_lt hlt)]
      exact (hf c hcm).1
  done := by
    intro X hP hw hK hc i pins s σ H E I hf st hg
    subst hP hw hK
    obtain ⟨hz, hTI, ⟨x0, y0, hTO⟩, h1, h2⟩ := st
    obtain ⟨xs, ys, hqx, hqy, g1, g2, hend⟩ := hg
    obtain ⟨its, rv, p⟩ := inv_sq I hqx
    obtain ⟨its2, rv2, p2⟩ := inv_sq I hqy
    have l1 := rv.length
    have l2 := rv2.length
    refine wpAny_pyNext_zipD2_end (zip_sepK D hz hTO h1 h2 p p2 na nb) (draws_sq (k := k) (prog := X.prog) (w := X.w) (A := X.A.in1) (I.ok.hd hc) i1 a (p.ne_it h1) its.toArray)
      (draws_sq (k := k') (prog := X.prog) (w := X.w) (A := X.A.in1) (I.ok.hd hc) i2 b (p2.ne_it h2) its2.toArray) hz hTI hTO ⟨h1, p⟩ ⟨h2, p2⟩ (by simp; omega) (by simp; omega) (by simp; omega) fun h' tk hk => ⟨rfl, I.turnedL (t' := tk) (ch := [z, TI, TO, i1, i2]) (fun c o hb q =>
      hk c o (fun q' => hb (by simp [q'])) (fun q' => hb (by simp [q'])) (fun q' => hb (by simp [q'])) (fun q' => hb (by simp [q'])) q) hf⟩
  self := fun A i s Q E st h => wpAny_pyIter_zip st.1 h
end

/-! enumerate(v) of a list or a tuple: how it begins -/
open AutoSeq1 (wpAny_loadPart') in
set_option maxHeartbeats 4000000 in
theorem meets_enumerate_newG {v : Value} {o : Obj} {H : Heap → Prop} (B : Begins v o H) :
    Meets (Builtin.«enumerate.__new__» ⟨[.type "enumerate", v], []⟩) (fun _ R s => H s.heap ∧
      R (.ok (.ret (.ref (s.heap.push o).objs.size))) { s with heap := (s.heap.push o).push { cls := .type "enumerate", data := .fields #[.none, .bool false, .ref s.heap.objs.size, rawInt 0, .none, .none] } }) :=
  .of_wp fun prog w A R s h => by
    obtain ⟨hp, g, d, tk, os⟩ := s; obtain ⟨h1, h⟩ := h
    have hsub := sub_enumerate
    have q1 : ∀ {A' : Around} {E : Value → Shared → Prop} {Q : Value → Shared → Prop}, Q (.ref hp.objs.size) ⟨hp.push o, g, d, tk, os⟩ → wpAny (model prog w) A' (pyIter v) Q E ⟨hp, g, d, tk, os⟩ :=
      fun q => B.iter prog w _ _ ⟨hp, g, d, tk, os⟩ _ h1 q
    wp_walk using q1
    refine wpAny_stack_any fun st => wpAny_pure ?_
    split
    · rename_i c _ _ _ _ _
      cases (c == Value.type "enumerate")
      · wp_walk using q1
        exact ⟨_, rfl, h⟩
      · wp_walk using q1
        exact ⟨_, rfl, h⟩
    · wp_walk using q1
      exact ⟨_, rfl, h⟩
section
variable {prog : Program} {w : World} {A : Around} {E : Value → Shared → Prop} {s : Shared}
theorem enum_begins0 {v : Value} {o : Obj} {H : Heap → Prop} {Q : Value → Shared → Prop} (B : Begins v o H) (h1 : H s.heap)
    (h : ∀ h', IsEnum h' (s.heap.objs.size + 1) s.heap.objs.size 0 .none → h'.get? s.heap.objs.size = some o → h'.objs.size = s.heap.objs.size + 2 →
      (∀ b o, s.heap.get? b = some o → h'.get? b = some o) → Q (.ref (s.heap.objs.size + 1)) { s with heap := h' }) :
    wpAny (model prog w) A (call (.type "enumerate") [v]) Q E s := by
  refine callType_new F.called_enumerate (by decide) (F.typeCall_enumerate_1 _) (F.newCall_enumerate_1 _) (fun obj => F.args_object_init_2 obj _) F.entry_enumerate_new
    (meets_enumerate_newG B) ⟨h1, ?_⟩
  have hz : (s.heap.push o).objs.size = s.heap.objs.size + 1 := Heap.size_push ..
  show _ ∧ _
  rw [hz]
  have he : IsEnum ((s.heap.push o).push { cls := .type "enumerate", data := .fields #[.none, .bool false, .ref s.heap.objs.size, rawInt 0, .none, .none] }) (s.heap.objs.size + 1) s.heap.objs.size 0 .none := by
    have := Heap.get?_push_size (s.heap.push o) (o := { cls := .type "enumerate", data := .fields #[.none, .bool false, .ref s.heap.objs.size, rawInt 0, .none, .none] }) rfl
    rw [hz] at this; exact this
  refine ⟨⟨_, he, rfl⟩, h _ he (Heap.get?_push_of_some _ (Heap.get?_push_size _ B.free)) (by rw [Heap.size_push, hz]) fun b o x => Heap.get?_push_of_some _ (Heap.get?_push_of_some _ x)⟩
end

/-! ### the sources -/
def wSeq (K : PySem.W.Frag) : List V → Hp → (It → Hp → Prop) → Prop := fun vs H R => ∃ a xs, vs = [.ref a] ∧ ((SqL K H a xs ∧ R (Itl K a) H) ∨ (SqT K H a xs ∧ R (Itt K a) H))
def wEnum (K : PySem.W.Frag) : List V → Hp → (It → Hp → Prop) → Prop := fun vs H R => ∃ a xs k, vs = [.ref a] ∧ SqK k K H a xs ∧ R (ItE k K a) H
def wZip (K : PySem.W.Frag) : List V → Hp → (It → Hp → Prop) → Prop := fun vs H R => ∃ a b xs ys k k', vs = [.ref a, .ref b] ∧ SqK k K H a xs ∧ SqK k' K H b ys ∧ R (ItZ k k' K a b) H
def wRng : List V → Hp → (It → Hp → Prop) → Prop := fun vs H R =>
  (∃ j : Int, vs = [.int j] ∧ -(2 ^ 62) ≤ j ∧ j < 2 ^ 62 ∧ R (Itr 0 j.toNat) H) ∨
  (∃ i j : Int, vs = [.int i, .int j] ∧ (-(2 ^ 62) ≤ i ∧ i < 2 ^ 62 ∧ -(2 ^ 62) ≤ j ∧ j < 2 ^ 62) ∧ R (Itr i (j - i).toNat) H) ∨
  ∃ (i j c : Int) (n : Nat), vs = [.int i, .int j, .int c] ∧ RgC i j c n ∧ R (Itc i c n) H
def tiOf (ta : TA) (w : List V → Hp → (It → Hp → Prop) → Prop) : TI := fun σ H R => ta σ H fun vs H1 => w vs H1 R
section
variable {X : Cx} {tg : Expr}
theorem pi_seqK {e : Expr} {ta : TE} (ha : PE X e ta) : PI X tg e (fun σ H R => ta σ H fun x H1 => wSeq X.K [x] H1 R) := by
  refine ⟨fun pins s σ H R I h => ?_⟩
  refine thn (ha.run pins s σ H _ I h) fun v s1 ⟨x, H1, I1, r1, q1⟩ => ?_
  obtain ⟨a, xs, e, q⟩ := q1
  cases e
  cases r1
  rcases q with ⟨hq, q⟩ | ⟨hq, q⟩
  · obtain ⟨its, rv, p, hz⟩ := I1.list hq
    refine wpAny_pyIter_list p.isList ?_
    refine ⟨s1.heap.objs.size, [s1.heap.objs.size], _, _, H1, rfl, I1.kept (t' := s1.toks) fun b o e => Heap.get?_push_of_some _ e, turn_list a _, ⟨_, Heap.get?_push_size _ rfl, rfl, rfl⟩, fun b hb => ?_, q⟩
    have e : b = s1.heap.objs.size := by simpa using hb
    subst e
    exact I1.fpOk (Nat.le_refl _) (I1.hok.fresh (Nat.le_refl _))
  · obtain ⟨its, rv, p, hz⟩ := I1.tuple hq
    refine wpAny_pyIter_tuple (show s1.heap.IsTuple a its.toArray from p) ?_
    refine ⟨s1.heap.objs.size, [s1.heap.objs.size], _, _, H1, rfl, I1.kept (t' := s1.toks) fun b o e => Heap.get?_push_of_some _ e, turn_tuple a _, ⟨_, Heap.get?_push_size _ rfl, rfl, rfl⟩, fun b hb => ?_, q⟩
    have e : b = s1.heap.objs.size := by simpa using hb
    subst e
    exact I1.fpOk (Nat.le_refl _) (I1.hok.fresh (Nat.le_refl _))
theorem pi_enumK {e : Expr} {ta : TA} {p pos tpos : Pos} {elts : List Expr} {kk : Nat} (hg : Gl X "enumerate") (hm : X.mg "enumerate" = none) (ha : PA X [e] ta) (hs : starEach [e] X.env = [(false, eval e X.env)]) :
    PI X (.Tuple elts kk tpos) (.Call (.Name "enumerate" p) [e] [] pos) (tiOf ta (wEnum X.K)) := by
  refine ⟨fun pins s σ H R I h => ?_⟩
  refine Call_ (ld_blt I hg hm boot_enumerate (PyProof.Rows.callWith_type1 (thn (ha.run pos pins s σ H _ I h) fun us s1 ⟨vs, H1, I1, r1, q1⟩ => ?_) hs rfl))
  obtain ⟨a, xs, k, ex, hq, q⟩ := q1
  subst ex
  cases r1 with
  | cons r rr =>
    cases rr
    cases r
    obtain ⟨its, rv, p'⟩ := inv_sq I1 hq
    have fin : ∀ h', IsEnum h' (s1.heap.objs.size + 1) s1.heap.objs.size 0 .none → IsIt k h' s1.heap.objs.size a 0 → (∀ b o, s1.heap.get? b = some o → h'.get? b = some o) →
        wpAny (model X.prog X.w) X.A (pyIter (.ref (s1.heap.objs.size + 1))) (PIE X pins σ (.Tuple elts kk tpos) R) X.xe { s1 with heap := h' } := fun h' he hit hk => by
      refine wpAny_pyIter_enum he ?_
      have I2 : Inv X pins σ H1 { s1 with heap := h' } := I1.kept (t' := s1.toks) hk
      refine ⟨s1.heap.objs.size + 1, [s1.heap.objs.size + 1, s1.heap.objs.size], _, _, H1, rfl, I2, turn_enumK a (s1.heap.objs.size + 1) s1.heap.objs.size, ⟨⟨.none, he⟩, hit, Nat.succ_ne_self _⟩, fun b hb => ?_, q⟩
      have e' : b = s1.heap.objs.size + 1 ∨ b = s1.heap.objs.size := by simpa using hb
      have hle : s1.heap.objs.size ≤ b := by
        rcases e' with z | z
        · rw [z]; exact Nat.le_add_right _ _
        · rw [z]; exact Nat.le_refl _
      exact I1.fpOk hle (I1.hok.fresh hle)
    exact enum_begins0 (begins_sq (k := k) a its.toArray) p' fun h' he h1 hsz hk => fin h' he (it_new h1) hk
theorem pi_zipK {e e2 : Expr} {ta : TA} {p pos tpos : Pos} {elts : List Expr} {kk : Nat} (hg : Gl X "zip") (hm : X.mg "zip" = none) (ha : PA X [e, e2] ta)
    (hs : starEach [e, e2] X.env = (false, eval e X.env) :: starEach [e2] X.env) (hpl : (backTo pos (starEach [e2] X.env)).any (·.1) = false) :
    PI X (.Tuple elts kk tpos) (.Call (.Name "zip" p) [e, e2] [] pos) (tiOf ta (wZip X.K)) := by
  refine ⟨fun pins s σ H R I h => ?_⟩
  refine Call_ (ld_blt I hg hm PyProof.Rows.boot_zip (PyProof.Rows.callWith_type1 (thn (ha.run pos pins s σ H _ I h) fun us s1 ⟨vs, H1, I1, r1, q1⟩ => ?_) hs hpl))
  obtain ⟨a, b, xs, ys, k, k', ex, hqx, hqy, q⟩ := q1
  subst ex
  cases r1 with
  | cons r rr =>
    cases rr with
    | cons r' rr =>
      cases rr
      cases r
      cases r'
      obtain ⟨its, rv, p1⟩ := inv_sq I1 hqx
      obtain ⟨its2, rv2, p2⟩ := inv_sq I1 hqy
      have la : a < s1.heap.objs.size := p1.lt
      have lb : b < s1.heap.objs.size := p2.lt
      refine zip_begins2 (begins_sq (k := k) a its.toArray) (begins_sq (k := k') b its2.toArray) p1 p2 fun h' hz hTI hTO h1 h2 hsz hk => wpAny_pyIter_zip hz ?_
      have I2 : Inv X pins σ H1 { s1 with heap := h' } := I1.kept (t' := s1.toks) hk
      have nlt : ∀ n m : Nat, n < m → n ≠ m + 3 := fun n m h => by omega
      refine ⟨s1.heap.objs.size + 4, [s1.heap.objs.size + 4, s1.heap.objs.size + 2, s1.heap.objs.size + 3, s1.heap.objs.size, s1.heap.objs.size + 1], _, _, H1, rfl, I2, turn_zipK (za_new s1.heap.objs.size) (nlt a _ la) (nlt b _ lb), ⟨hz, hTI, ⟨_, _, hTO⟩, it_new h1, it_new h2⟩, fun c hcm => ?_, q⟩
      have e' : c = s1.heap.objs.size + 4 ∨ c = s1.heap.objs.size + 2 ∨ c = s1.heap.objs.size + 3 ∨ c = s1.heap.objs.size ∨ c = s1.heap.objs.size + 1 := by simpa using hcm
      have hle : s1.heap.objs.size ≤ c := by
        rcases e' with z | z | z | z | z
        · rw [z]; exact Nat.le_add_right _ _
        · rw [z]; exact Nat.le_add_right _ _
        · rw [z]; exact Nat.le_add_right _ _
        · rw [z]; exact Nat.le_refl _
        · rw [z]; exact Nat.le_add_right _ _
      exact I1.fpOk hle (I1.hok.fresh hle)
end
end G
namespace G
open PySem PySem.Spec PyProof.Rows L2

section
variable {K : PySem.W.Frag} {A A' : Addr → Prop} {H H' : Hp}
/-! ### the sources walk their items -/
theorem RVs.one {d : AV} {vs : List V} (r : RVs K A H [d] vs) : ∃ v, vs = [v] ∧ RV K A H d v := by
  cases r with
  | cons a b => cases b; exact ⟨_, rfl, a⟩
theorem RVs.two {d e : AV} {vs : List V} (r : RVs K A H [d, e] vs) : ∃ v u, vs = [v, u] ∧ RV K A H d v ∧ RV K A H e u := by
  cases r with
  | cons a b => obtain ⟨u, rfl, c⟩ := b.one; exact ⟨_, _, rfl, a, c⟩
theorem RVs.three {d e g : AV} {vs : List V} (r : RVs K A H [d, e, g] vs) : ∃ v u w, vs = [v, u, w] ∧ RV K A H d v ∧ RV K A H e u ∧ RV K A H g w := by
  cases r with
  | cons a b => obtain ⟨u, w, rfl, c⟩ := b.two; exact ⟨_, _, _, rfl, a, c⟩
theorem RV.list {ds : List AV} {v : V} (r : RV K A H (.list ds) v) : ∃ a xs, v = .ref a ∧ H a = some (.lst xs) ∧ ¬ A a ∧ RVs K A H ds xs := by
  cases r with
  | lst e n rs => exact ⟨_, _, rfl, e, n, rs⟩
theorem RV.intV {i : Int} {v : V} (r : RV K A H (.int i) v) : v = .int i := by cases r; rfl
theorem post_self {d : AV} {v : V} (r : RV K A H d v) : PostP K A H false d v H := .inl ⟨rfl, rfl, r⟩
theorem rvs_at {ds : List AV} {xs : List V} {i : Nat} {x : V} (rs : RVs K A H ds xs) (hx : xs[i]? = some x) : ∃ d, ds[i]? = some d ∧ RV K A H d x := by
  have hi : i < xs.length := (List.getElem?_eq_some_iff.mp hx).1
  have hd : i < ds.length := by rw [rs.length]; exact hi
  obtain ⟨v, h1, h2⟩ := rs.get (List.getElem?_eq_getElem hd)
  rw [hx] at h1; cases h1
  exact ⟨_, List.getElem?_eq_getElem hd, h2⟩
theorem rvs_ex {ds : List AV} {xs : List V} {i : Nat} (rs : RVs K A H ds xs) (hi : i < ds.length) : ∃ x, xs[i]? = some x :=
  ⟨_, List.getElem?_eq_getElem (by rw [← rs.length]; exact hi)⟩

/-- a sequence that stands: its kind, its place -/
def SeqP (K : PySem.W.Frag) (ds : List AV) (k : Bool) (a : Addr) : (Addr → Prop) → Hp → Prop := fun A H => match k with
  | true => RV K A H (.list ds) (.ref a)
  | false => RV K A H (.tuple ds) (.ref a)
theorem SeqP.mono {ds : List AV} {k : Bool} {a : Addr} (p : SeqP K ds k a A H) (h : ∀ a x, H a = some x → ¬ A a → H' a = some x ∧ ¬ A' a) : SeqP K ds k a A' H' := by
  cases k with
  | true => exact RV.mono h (show RV K A H (.list ds) (.ref a) from p)
  | false => exact RV.mono h (show RV K A H (.tuple ds) (.ref a) from p)
theorem SeqP.sq {ds : List AV} {k : Bool} {a : Addr} (p : SeqP K ds k a A H) : ∃ xs, SqK k K H a xs ∧ RVs K A H ds xs := by
  cases k with
  | true =>
    obtain ⟨b, xs, e, h, _, rs⟩ := RV.list (show RV K A H (.list ds) (.ref a) from p)
    cases e
    exact ⟨xs, .inl (.inl h), rs⟩
  | false =>
    obtain ⟨b, xs, e, h, rs⟩ := RV.tuple (show RV K A H (.tuple ds) (.ref a) from p)
    cases e
    exact ⟨xs, h, rs⟩
theorem seqP_of {d : AV} {ds : List AV} {v : V} (r : RV K A H d v) (e : items? d = some ds) : ∃ k a, v = .ref a ∧ SeqP K ds k a A H := by
  cases d with
  | list xs => cases e; obtain ⟨a, _, e, _⟩ := r.list; subst e; exact ⟨true, a, rfl, r⟩
  | tuple xs => cases e; obtain ⟨a, _, e, _⟩ := r.tuple; subst e; exact ⟨false, a, rfl, r⟩
  | _ => cases e
theorem walk_seq (ds : List AV) (k : Bool) (a : Addr) : Walk K (match k with | true => Itl K a | false => Itt K a) ds (SeqP K ds k a) where
  mono := fun A H A' H' p h => p.mono h
  go := fun A H i p hi => by
    obtain ⟨xs, hs, rs⟩ := p.sq
    obtain ⟨x, hx⟩ := rvs_ex rs hi
    cases k with
    | true => exact ⟨xs, x, hs, hx⟩
    | false => exact ⟨xs, x, hs, hx⟩
  stop := fun A H p => by
    obtain ⟨xs, hs, rs⟩ := p.sq
    cases k with
    | true => exact ⟨xs, hs, by rw [rs.length]; exact Nat.le_refl _⟩
    | false => exact ⟨xs, hs, by rw [rs.length]; exact Nat.le_refl _⟩
  yld := fun A H i x H' p hi y => by
    obtain ⟨xs, hs, rs⟩ := p.sq
    cases k with
    | true =>
      obtain ⟨rfl, q⟩ := (show H' = H ∧ ∀ xs, SqL K H a xs → xs[i]? = some x from y)
      obtain ⟨d, h1, h2⟩ := rvs_at rs (q xs hs)
      exact ⟨d, h1, post_self h2⟩
    | false =>
      obtain ⟨rfl, q⟩ := (show H' = H ∧ ∀ xs, SqT K H a xs → xs[i]? = some x from y)
      obtain ⟨d, h1, h2⟩ := rvs_at rs (q xs hs)
      exact ⟨d, h1, post_self h2⟩
theorem src_seq : SrcOk K .seq (wSeq K) := by
  intro A H ds vs items R rs e h
  have key : ∀ d, ds = [d] → items? d = some items → wSeq K vs H R := fun d e1 e2 => by
    subst e1
    obtain ⟨v, rfl, rv⟩ := rs.one
    obtain ⟨k, a, rfl, p⟩ := seqP_of rv e2
    obtain ⟨xs, hs, _⟩ := p.sq
    refine ⟨a, xs, rfl, ?_⟩
    have q := h _ _ (walk_seq (K := K) items k a) p
    cases k with
    | true => exact .inl ⟨hs, q⟩
    | false => exact .inr ⟨hs, q⟩
  cases ds with
  | nil => cases e
  | cons d r =>
    cases r with
    | nil =>
      cases d with
      | list xs => exact key _ rfl (by cases e; rfl)
      | tuple xs => exact key _ rfl (by cases e; rfl)
      | _ => cases e
    | cons _ _ => cases d <;> cases e
theorem zipIdx_at {ds : List AV} {i : Nat} {d : AV} (h : ds[i]? = some d) : (ds.zipIdx.map fun p => PyData.tuple [.int p.2, p.1])[i]? = some (.tuple [.int i, d]) := by
  rw [List.getElem?_map, List.getElem?_zipIdx, h]
  simp
theorem walk_enum (ds : List AV) (k : Bool) (a : Addr) : Walk K (ItE k K a) (ds.zipIdx.map fun p => .tuple [.int p.2, p.1]) (SeqP K ds k a) where
  mono := fun A H A' H' p h => p.mono h
  go := fun A H i p hi => by
    obtain ⟨xs, hs, rs⟩ := p.sq
    obtain ⟨x, hx⟩ := rvs_ex rs (by simpa using hi)
    exact ⟨xs, x, hs, hx⟩
  stop := fun A H p => by
    obtain ⟨xs, hs, rs⟩ := p.sq
    exact ⟨xs, hs, by simp [rs.length]⟩
  yld := fun A H i x H' p hi y => by
    obtain ⟨xs, hs, rs⟩ := p.sq
    obtain ⟨T, z, rfl, hT, rfl, q⟩ := y
    obtain ⟨d, h1, h2⟩ := rvs_at rs (q xs hs)
    exact ⟨_, zipIdx_at h1, .inr ⟨T, _, hT, rfl, rfl, .tup (.cons (.int _) (.cons h2 .nil))⟩⟩
theorem src_enum : SrcOk K .enum (wEnum K) := by
  intro A H ds vs items R rs e h
  have key : ∀ d es, ds = [d] → items? d = some es → items = (es.zipIdx.map fun p => .tuple [.int p.2, p.1]) → wEnum K vs H R := fun d es e1 e2 e3 => by
    subst e1 e3
    obtain ⟨v, rfl, rv⟩ := rs.one
    obtain ⟨k, a, rfl, p⟩ := seqP_of rv e2
    obtain ⟨xs, hs, _⟩ := p.sq
    exact ⟨a, xs, k, rfl, hs, h _ _ (walk_enum (K := K) es k a) p⟩
  cases ds with
  | nil => cases e
  | cons d r =>
    cases r with
    | nil =>
      cases d with
      | list xs => exact key _ _ rfl rfl (by cases e; rfl)
      | tuple xs => exact key _ _ rfl rfl (by cases e; rfl)
      | _ => cases e
    | cons _ _ => cases d <;> cases e
theorem zip_at {ds es : List AV} {i : Nat} {d e : AV} (h : ds[i]? = some d) (h' : es[i]? = some e) : ((ds.zip es).map fun p => PyData.tuple [p.1, p.2])[i]? = some (.tuple [d, e]) := by
  have q : (ds.zip es)[i]? = some (d, e) := List.getElem?_zip_eq_some.mpr ⟨h, h'⟩
  rw [List.getElem?_map, q]
  rfl
theorem walk_zip (ds es : List AV) (k k' : Bool) (a b : Addr) : Walk K (ItZ k k' K a b) ((ds.zip es).map fun p => .tuple [p.1, p.2]) (fun A H => SeqP K ds k a A H ∧ SeqP K es k' b A H) where
  mono := fun A H A' H' p h => ⟨p.1.mono h, p.2.mono h⟩
  go := fun A H i p hi => by
    obtain ⟨xs, hs, rs⟩ := p.1.sq
    obtain ⟨ys, hs', rs'⟩ := p.2.sq
    rw [List.length_map, List.length_zip] at hi
    obtain ⟨x, hx⟩ := rvs_ex (i := i) rs (by omega)
    obtain ⟨y, hy⟩ := rvs_ex (i := i) rs' (by omega)
    exact ⟨xs, ys, x, y, hs, hs', hx, hy⟩
  stop := fun A H p => by
    obtain ⟨xs, hs, rs⟩ := p.1.sq
    obtain ⟨ys, hs', rs'⟩ := p.2.sq
    have l1 := rs.length
    have l2 := rs'.length
    refine ⟨xs, ys, hs, hs', ?_⟩
    rw [List.length_map, List.length_zip]
    omega
  yld := fun A H i x H' p hi y => by
    obtain ⟨xs, hs, rs⟩ := p.1.sq
    obtain ⟨ys, hs', rs'⟩ := p.2.sq
    obtain ⟨T, z, u, rfl, hT, rfl, q, q'⟩ := y
    obtain ⟨d, h1, h2⟩ := rvs_at rs (q xs hs)
    obtain ⟨e, h3, h4⟩ := rvs_at rs' (q' ys hs')
    exact ⟨_, zip_at h1 h3, .inr ⟨T, _, hT, rfl, rfl, .tup (.cons h2 (.cons h4 .nil))⟩⟩
theorem src_zip : SrcOk K .zip (wZip K) := by
  intro A H ds vs items R rs e h
  cases ds with
  | nil => cases e
  | cons d r =>
    cases r with
    | nil => cases d <;> cases e
    | cons d' r =>
      cases r with
      | cons _ _ => cases d <;> cases e
      | nil =>
        have e' : ((items? d).bind fun xs => (items? d').map fun ys => (xs.zip ys).map fun p => PyData.tuple [p.1, p.2]) = some items := by
          cases d <;> exact e
        cases e1 : items? d with
        | none => rw [e1] at e'; cases e'
        | some xs =>
          cases e2 : items? d' with
          | none => rw [e1, e2] at e'; cases e'
          | some ys =>
            rw [e1, e2] at e'
            have e3 : items = (xs.zip ys).map fun p => PyData.tuple [p.1, p.2] := (Option.some.inj e').symm
            subst e3
            obtain ⟨v, u, rfl, r1, r2⟩ := rs.two
            obtain ⟨k, a, rfl, p⟩ := seqP_of r1 e1
            obtain ⟨k', b, rfl, p'⟩ := seqP_of r2 e2
            obtain ⟨zs, hs, _⟩ := p.sq
            obtain ⟨ws, hs', _⟩ := p'.sq
            exact ⟨a, b, zs, ws, k, k', rfl, hs, hs', h _ _ (walk_zip (K := K) xs ys k k' a b) ⟨p, p'⟩⟩
/-! ranges -/
theorem rangeList_len {a c : Int} {n : Nat} : (rangeList a n c).length = n := by simp [rangeList]
theorem rangeList_at {a c : Int} {n i : Nat} (h : i < n) : (rangeList a n c)[i]? = some (.int (a + (i : Nat) * c)) := by
  simp [rangeList, h]
theorem walk_rng (a : Int) (n : Nat) : Walk K (Itr a n) (rangeList a n 1) (fun _ _ => True) where
  mono := fun _ _ _ _ _ _ => True.intro
  go := fun A H i _ hi => by rw [rangeList_len] at hi; exact hi
  stop := fun A H _ => by show n ≤ _; rw [rangeList_len]; exact Nat.le_refl _
  yld := fun A H i x H' _ hi y => by
    obtain ⟨rfl, rfl⟩ := y
    rw [rangeList_len] at hi
    refine ⟨_, rangeList_at hi, post_self ?_⟩
    rw [Int.mul_one]; exact .int _
theorem walk_rngc (a c : Int) (n : Nat) : Walk K (Itc a c n) (rangeList a n c) (fun _ _ => True) where
  mono := fun _ _ _ _ _ _ => True.intro
  go := fun A H i _ hi => by rw [rangeList_len] at hi; exact hi
  stop := fun A H _ => by show n ≤ _; rw [rangeList_len]; exact Nat.le_refl _
  yld := fun A H i x H' _ hi y => by
    obtain ⟨rfl, rfl⟩ := y
    rw [rangeList_len] at hi
    exact ⟨_, rangeList_at hi, post_self (.int _)⟩
def wR1 : List V → Hp → (It → Hp → Prop) → Prop := fun vs H1 R => ∃ j : Int, vs = [.int j] ∧ -(2 ^ 62) ≤ j ∧ j < 2 ^ 62 ∧ R (Itr 0 j.toNat) H1
def wR2 : List V → Hp → (It → Hp → Prop) → Prop := fun vs H1 R => ∃ i j : Int, vs = [.int i, .int j] ∧ (-(2 ^ 62) ≤ i ∧ i < 2 ^ 62 ∧ -(2 ^ 62) ≤ j ∧ j < 2 ^ 62) ∧ R (Itr i (j - i).toNat) H1
def wR3 : List V → Hp → (It → Hp → Prop) → Prop := fun vs H1 R => ∃ (i j c : Int) (n : Nat), vs = [.int i, .int j, .int c] ∧ RgC i j c n ∧ R (Itc i c n) H1
theorem small62_iff {i : Int} (h : small62 i = true) : -(2 ^ 62) ≤ i ∧ i < 2 ^ 62 := by
  unfold small62 at h
  rw [Bool.and_eq_true, decide_eq_true_eq, decide_eq_true_eq] at h
  exact h
theorem src_rng1 : SrcOk K .rng1 wR1 := by
  intro A H ds vs items R rs e h
  change range1 ds = some items at e
  unfold range1 at e
  split at e
  · rename_i j
    split at e
    · rename_i hj
      cases e
      obtain ⟨v, rfl, rv⟩ := rs.one
      cases rv.intV
      obtain ⟨h1, h2⟩ := small62_iff hj
      exact ⟨j, rfl, h1, h2, h _ _ (walk_rng (K := K) 0 j.toNat) True.intro⟩
    · cases e
  · cases e
theorem src_rng2 : SrcOk K .rng2 wR2 := by
  intro A H ds vs items R rs e h
  change range2 ds = some items at e
  unfold range2 at e
  split at e
  · rename_i i j
    split at e
    · rename_i hj
      cases e
      obtain ⟨v, u, rfl, rv, ru⟩ := rs.two
      cases rv.intV
      cases ru.intV
      rw [Bool.and_eq_true] at hj
      obtain ⟨h1, h2⟩ := small62_iff hj.1
      obtain ⟨h3, h4⟩ := small62_iff hj.2
      exact ⟨i, j, rfl, ⟨h1, h2, h3, h4⟩, h _ _ (walk_rng (K := K) i _) True.intro⟩
    · cases e
  · cases e
theorem src_rng3 : SrcOk K .rng3 wR3 := by
  intro A H ds vs items R rs e h
  change range3 ds = some items at e
  unfold range3 at e
  split at e
  · rename_i i j c
    split at e
    · rename_i hj
      cases e
      obtain ⟨v, u, w, rfl, rv, ru, rw'⟩ := rs.three
      cases rv.intV
      cases ru.intV
      cases rw'.intV
      simp only [Bool.and_eq_true, decide_eq_true_eq] at hj
      obtain ⟨⟨⟨h1, h2⟩, h3⟩, h4⟩ := hj
      exact ⟨i, j, c, _, rfl, ⟨h1, h2, h3, (Int.toNat_of_nonneg h4).symm⟩, h _ _ (walk_rngc (K := K) i c _) True.intro⟩
    · cases e
  · cases e
end
end G
namespace G
open PySem PySem.Spec PyProof.Rows L2

section
variable {K : PySem.W.Frag} {A A' : Addr → Prop} {H H' : Hp}
/-! ### the primitives, by values -/
/-- what a primitive's reading must grant -/
def PR (K : PySem.W.Frag) (p : Prim) (R : List V → Hp → VK → Prop) : Prop :=
  ∀ (A : Addr → Prop) (H : Hp) ds vs d (Q : VK), RA K A H p.pkOk ds vs → primS p ds = some d → (∀ v H', PostP K A H p.fresh d v H' → Q v H') → R vs H Q
/-- exactly two, exactly one argument: the reading is asked of them alone -/
def R2of (r : R2) : List V → Hp → VK → Prop := fun vs H Q => ∀ x y, vs = [x, y] → r x y H Q
def R1of (r : V → Hp → VK → Prop) : List V → Hp → VK → Prop := fun vs H Q => ∀ x, vs = [x] → r x H Q

theorem RVs.paired : ∀ {ds : List AV} {vs : List V}, RVs K A H ds vs → Paired (RVp K A H) ds vs
  | [], _, h => by cases h; exact .nil
  | d :: ds, _, h => by
    cases h with
    | cons a b => exact .cons (.val a) (RVs.paired b)
theorem RA.p {pk : Bool} {ds : List AV} {vs : List V} (h : RA K A H pk ds vs) : Paired (RVp K A H) ds vs := by
  cases pk with
  | true => exact h
  | false => exact RVs.paired h
theorem Paired.two' {α β : Type} {R : α → β → Prop} {xs : List α} {u v : β} (h : Paired R xs [u, v]) : ∃ x y, xs = [x, y] ∧ R x u ∧ R y v := by
  cases h with
  | cons a b => cases b with
    | cons c d => cases d; exact ⟨_, _, rfl, a, c⟩
theorem Paired.one' {α β : Type} {R : α → β → Prop} {xs : List α} {u : β} (h : Paired R xs [u]) : ∃ x, xs = [x] ∧ R x u := by
  cases h with
  | cons a b => cases b; exact ⟨_, rfl, a⟩
theorem post_int {i : Int} : PostP K A H false (.int i) (.int i) H := post_self (.int i)
theorem post_bl {b : Bool} : PostP K A H false (.bool b) (.bl b) H := post_self (.bl b)
theorem PR2.of {p : Prim} {r : R2} (h : ∀ (A : Addr → Prop) (H : Hp) a b x y d (Q : VK), RVp K A H a x → RVp K A H b y → primS p [a, b] = some d → (∀ v H', PostP K A H p.fresh d v H' → Q v H') → r x y H Q) : PR K p (R2of r) :=
  fun A H ds vs d Q ra e q x y hv => by
    subst hv
    obtain ⟨a, b, rfl, r1, r2⟩ := Paired.two' ra.p
    exact h A H a b x y d Q r1 r2 e q
theorem PR1.of {p : Prim} {r : V → Hp → VK → Prop} (h : ∀ (A : Addr → Prop) (H : Hp) a x d (Q : VK), RVp K A H a x → primS p [a] = some d → (∀ v H', PostP K A H p.fresh d v H' → Q v H') → r x H Q) : PR K p (R1of r) :=
  fun A H ds vs d Q ra e q x hv => by
    subst hv
    obtain ⟨a, rfl, r1⟩ := Paired.one' ra.p
    exact h A H a x d Q r1 e q

/-! + - * // % ** ^ -/
def rAdd (K : PySem.W.Frag) : R2 := fun x y H Q => rI0 (fun i j => .int (i + j)) x y H Q ∨ rCat x y H Q ∨ rCatA K x y H Q
theorem op_addR {X : Cx} : OpR X (binaryOp .Add) (rAdd X.K) := OpR.or op_add (OpR.or op_cat op_catA)
theorem fit_iff {xs ys : List AV} (h : fit xs = some ys) : xs.length ≤ sizeLine ∧ ys = xs := by
  unfold fit at h
  split at h
  · rename_i hl; cases h; exact ⟨by rw [sizeLine_eq]; exact hl, rfl⟩
  · cases h
theorem pr_add : PR K .add (R2of (rAdd K)) := PR2.of fun A H a b x y d Q ra rb e q => by
  change addS a b = some d at e
  unfold addS at e
  split at e
  · cases e
    exact .inl ⟨_, _, ra.int, rb.int, q _ _ post_int⟩
  · rename_i xs ys
    cases ef : fit (xs ++ ys) with
    | none => rw [ef] at e; cases e
    | some zs =>
      rw [ef] at e
      obtain ⟨hl, e2⟩ := fit_iff ef
      subst e2
      cases e
      obtain ⟨l, us, rfl, h1, rs⟩ := ra.list
      obtain ⟨l2, ws, rfl, h2, rs2⟩ := rb.list
      refine .inr (.inl ⟨l, l2, us, ws, rfl, rfl, h1, h2, ?_, fun p hp => q _ _ (.inr ⟨p, _, hp, rfl, rfl, .lst (rs.append rs2)⟩)⟩)
      rw [List.length_append, rs.length, rs2.length] at hl
      exact hl
  · rename_i xs ys
    cases ef : fit (xs ++ ys) with
    | none => rw [ef] at e; cases e
    | some zs =>
      rw [ef] at e
      obtain ⟨hl, e2⟩ := fit_iff ef
      subst e2
      cases e
      obtain ⟨l, us, rfl, h1, rs⟩ := ra.tuple.tuple
      obtain ⟨l2, ws, rfl, h2, rs2⟩ := rb.tuple.tuple
      rw [List.length_append, rs.length, rs2.length] at hl
      refine .inr (.inr ⟨l, l2, us, ws, rfl, rfl, h1, h2, hl, fun e0 => ?_, fun _ e0 => ?_, fun _ _ p hp => q _ _ (.inr ⟨p, _, hp, rfl, rfl, .tup (rs.append rs2)⟩)⟩)
      · have : xs = [] := by
          have := rs.length
          rw [e0] at this
          exact List.eq_nil_of_length_eq_zero this
        subst this
        exact q _ _ (.inl ⟨rfl, rfl, rb.tuple⟩)
      · have : ys = [] := by
          have := rs2.length
          rw [e0] at this
          exact List.eq_nil_of_length_eq_zero this
        subst this
        rw [List.append_nil] at q
        exact q _ _ (.inl ⟨rfl, rfl, ra.tuple⟩)
  · cases e
theorem pr_sub : PR K .sub (R2of (rI0 fun i j => .int (i - j))) := PR2.of fun A H a b x y d Q ra rb e q => by
  cases a <;> cases b <;> first | (cases e; exact ⟨_, _, ra.int, rb.int, q _ _ post_int⟩) | cases e
theorem pr_xor : PR K .xor (R2of (rI0 fun i j => .int (Builtin.bitXor i j))) := PR2.of fun A H a b x y d Q ra rb e q => by
  cases a <;> cases b <;> first | (cases e; exact ⟨_, _, ra.int, rb.int, q _ _ post_int⟩) | cases e
theorem pr_band : PR K .band (R2of (rI0 fun i j => .int (Builtin.bitAnd i j))) := PR2.of fun A H a b x y d Q ra rb e q => by
  cases a <;> cases b <;> first | (cases e; exact ⟨_, _, ra.int, rb.int, q _ _ post_int⟩) | cases e
theorem pr_bor : PR K .bor (R2of (rI0 fun i j => .int (Builtin.bitOr i j))) := PR2.of fun A H a b x y d Q ra rb e q => by
  cases a <;> cases b <;> first | (cases e; exact ⟨_, _, ra.int, rb.int, q _ _ post_int⟩) | cases e
def rMulR (K : PySem.W.Frag) : R2 := fun x y H Q => rI CMul (fun i j => .int (i * j)) x y H Q ∨ rI CMulW (fun i j => .int (i * j)) x y H Q ∨ rRep x y H Q ∨ rRepT K x y H Q
theorem op_mulR {X : Cx} : OpR X (binaryOp .Mult) (rMulR X.K) := OpR.or op_mul (OpR.or op_mulW (OpR.or op_rep op_repT))
theorem big_iff {i : Int} (h : big i = true) : -(2 ^ 64) < i ∧ i < 2 ^ 64 := by
  unfold big at h
  rw [Bool.and_eq_true, decide_eq_true_eq, decide_eq_true_eq] at h
  exact h
theorem RVs.rep {ds : List AV} {vs : List V} (r : RVs K A H ds vs) : ∀ n, RVs K A H (List.replicate n ds).flatten (List.replicate n vs).flatten
  | 0 => .nil
  | n + 1 => by
    rw [List.replicate_succ, List.replicate_succ, List.flatten_cons, List.flatten_cons]
    exact r.append (RVs.rep r n)
theorem pr_mul : PR K .mul (R2of (rMulR K)) := PR2.of fun A H a b x y d Q ra rb e q => by
  change mulS a b = some d at e
  unfold mulS at e
  split at e
  · rename_i i j
    split at e
    · rename_i hm
      cases e
      unfold mulOk at hm
      simp only [Bool.or_eq_true, decide_eq_true_eq] at hm
      rcases hm with (hm | hm) | hm
      · exact .inl ⟨_, _, ra.int, rb.int, .inl (big_iff hm), q _ _ post_int⟩
      · exact .inl ⟨_, _, ra.int, rb.int, .inr (big_iff hm), q _ _ post_int⟩
      · exact .inr (.inl ⟨_, _, ra.int, rb.int, hm, q _ _ post_int⟩)
    · cases e
  · rename_i xs k
    split at e
    · rename_i hm
      cases e
      rw [Bool.and_eq_true, decide_eq_true_eq] at hm
      obtain ⟨h1, h2⟩ := small62_iff hm.1
      obtain ⟨l, us, rfl, h3, rs⟩ := ra.list
      refine .inr (.inr (.inl ⟨l, k, us, rfl, rb.int, h3, by omega, by omega, ?_, fun p hp => q _ _ (.inr ⟨p, _, hp, rfl, rfl, .lst (rs.rep _)⟩)⟩))
      rw [← rs.length, sizeLine_eq]; exact hm.2
    · cases e
  · rename_i xs k
    split at e
    · rename_i hm
      cases e
      simp only [Bool.and_eq_true, decide_eq_true_eq] at hm
      obtain ⟨⟨⟨h1, h2⟩, h4⟩, h5⟩ := hm
      obtain ⟨l, us, rfl, h3, rs⟩ := ra.tuple.tuple
      refine .inr (.inr (.inr ⟨l, k, us, rfl, rb.int, h3, fun z => ?_, h1, h2, by rw [← rs.length]; exact h5, fun p hp => q _ _ (.inr ⟨p, _, hp, rfl, rfl, .tup (rs.rep _)⟩)⟩))
      subst z
      cases rs
      simp at h4
    · cases e
  · cases e
theorem pr_fdiv : PR K .fdiv (R2of (rI CDivW fun i j => .int (i / j))) := PR2.of fun A H a b x y d Q ra rb e q => by
  cases a <;> cases b <;> first
    | (rename_i i j
       change (if divOk j then some (PyData.int (i / j)) else none) = some d at e
       split at e
       · rename_i hd
         cases e
         unfold divOk at hd
         rw [Bool.and_eq_true, decide_eq_true_eq, decide_eq_true_eq] at hd
         exact ⟨_, _, ra.int, rb.int, hd, q _ _ post_int⟩
       · cases e)
    | cases e
theorem pr_mod : PR K .mod (R2of (rI (fun _ j => 0 < j) fun i j => .int (i % j))) := PR2.of fun A H a b x y d Q ra rb e q => by
  cases a <;> cases b <;> first
    | (rename_i i j
       change (if decide (0 < j) then some (PyData.int (i % j)) else none) = some d at e
       split at e
       · rename_i hd
         cases e
         exact ⟨_, _, ra.int, rb.int, of_decide_eq_true hd, q _ _ post_int⟩
       · cases e)
    | cases e
theorem pow_ok {i j : Int} (h : (decide (0 ≤ j) && decide (j ≤ 1000000) && decide (i.natAbs < 2 ^ 64)) = true) : CPow i j := by
  simp only [Bool.and_eq_true, decide_eq_true_eq] at h
  exact ⟨h.1.1, h.1.2, h.2⟩
theorem pr_pow : PR K .pow (R2of (rI CPow fun i j => .int (i ^ j.toNat))) := PR2.of fun A H a b x y d Q ra rb e q => by
  cases a <;> cases b <;> first
    | (rename_i i j
       change (if decide (0 ≤ j) && decide (j ≤ 1000000) && decide (i.natAbs < 2 ^ 64) then some (PyData.int (i ^ j.toNat)) else none) = some d at e
       split at e
       · rename_i hd
         cases e
         exact ⟨_, _, ra.int, rb.int, pow_ok hd, q _ _ post_int⟩
       · cases e)
    | cases e
theorem pr_shl : PR K .shl (R2of (rI CPow fun i j => .int (i * 2 ^ j.toNat))) := PR2.of fun A H a b x y d Q ra rb e q => by
  cases a <;> cases b <;> first
    | (rename_i i j
       change (if decide (0 ≤ j) && decide (j ≤ 1000000) && decide (i.natAbs < 2 ^ 64) then some (PyData.int (i * 2 ^ j.toNat)) else none) = some d at e
       split at e
       · rename_i hd
         cases e
         exact ⟨_, _, ra.int, rb.int, pow_ok hd, q _ _ post_int⟩
       · cases e)
    | cases e
theorem pr_shr : PR K .shr (R2of (rI (fun _ j => 0 ≤ j) fun i j => .int (i / 2 ^ j.toNat))) := PR2.of fun A H a b x y d Q ra rb e q => by
  cases a <;> cases b <;> first
    | (rename_i i j
       change (if decide (0 ≤ j) then some (PyData.int (i / 2 ^ j.toNat)) else none) = some d at e
       split at e
       · rename_i hd
         cases e
         exact ⟨_, _, ra.int, rb.int, of_decide_eq_true hd, q _ _ post_int⟩
       · cases e)
    | cases e
theorem pr_neg : PR K .neg (R1of (rU fun i => .int (-i))) := PR1.of fun A H a x d Q ra e q => by
  cases a <;> first | (cases e; exact ⟨_, ra.int, q _ _ post_int⟩) | cases e

/-! comparisons -/
def rEqR (K : PySem.W.Frag) : R2 := fun x y H Q => rEq x y H Q ∨ rEqD K x y H Q
theorem op_eqR {X : Cx} (hu : X.A.units + 64 < cLine) : OpR X (compareOp .Eq) (rEqR X.K) := OpR.or op_eq (op_eqD hu)
def rNeR (K : PySem.W.Frag) : R2 := fun x y H Q => rNe x y H Q ∨ rNeD K x y H Q
theorem op_neR {X : Cx} (hu : X.A.units + 64 < cLine) : OpR X (compareOp .NotEq) (rNeR X.K) := OpR.or op_ne (op_neD hu)
theorem eqOk_iff {d e : AV} (h : eqOk d e = true) : SeqAt.shaped d = true ∧ SeqAt.shaped e = true := by
  unfold eqOk at h
  rw [Bool.and_eq_true] at h; exact h
theorem RVp.sdp {d : AV} {v : V} (r : RVp K A H d v) (h : SeqAt.shaped d = true) : Dp K H v d := r.dp (SeqAt.canLay_of_shaped h)
theorem eq_ok {a b : AV} {x y : V} {k : Bool} {Q : VK} (ra : RVp K A H a x) (rb : RVp K A H b y) (e : eqS a b = some k) (q : Q (.bl k) H) : rEqR K x y H Q := by
  unfold eqS at e
  split at e
  · cases e
    cases ra.int
    cases rb.int
    exact .inl ⟨rfl, by rw [dec_int]; exact q⟩
  · split at e
    · rename_i h
      cases e
      obtain ⟨h1, h2⟩ := eqOk_iff h
      exact .inr ⟨_, _, ra.sdp h1, rb.sdp h2, h1, h2, q⟩
    · cases e
theorem ne_ok {a b : AV} {x y : V} {k : Bool} {Q : VK} (ra : RVp K A H a x) (rb : RVp K A H b y) (e : eqS a b = some k) (q : Q (.bl !k) H) : rNeR K x y H Q := by
  unfold eqS at e
  split at e
  · cases e
    cases ra.int
    cases rb.int
    exact .inl ⟨rfl, by rw [dec_int]; exact q⟩
  · split at e
    · rename_i h
      cases e
      obtain ⟨h1, h2⟩ := eqOk_iff h
      exact .inr ⟨_, _, ra.sdp h1, rb.sdp h2, h1, h2, q⟩
    · cases e
theorem pr_eq : PR K .eq (R2of (rEqR K)) := PR2.of fun A H a b x y d Q ra rb e q => by
  change (eqS a b).map PyData.bool = some d at e
  cases h : eqS a b with
  | none => rw [h] at e; cases e
  | some k => rw [h] at e; cases e; exact eq_ok ra rb h (q _ _ post_bl)
theorem pr_ne : PR K .ne (R2of (rNeR K)) := PR2.of fun A H a b x y d Q ra rb e q => by
  change (eqS a b).map (fun k => PyData.bool !k) = some d at e
  cases h : eqS a b with
  | none => rw [h] at e; cases e
  | some k => rw [h] at e; cases e; exact ne_ok ra rb h (q _ _ post_bl)
/-- an order of data -/
def rOrd (K : PySem.W.Frag) (f : Int → Int → Bool) (g : AV → AV → Bool) : R2 := fun x y H Q => rI0 (fun i j => .bl (f i j)) x y H Q ∨
  ∃ d e, Dp K H x d ∧ Dp K H y e ∧ SeqAt.shaped d = true ∧ SeqAt.shaped e = true ∧ PySem.W.alike d e = true ∧ d ≠ .none ∧ Q (.bl (g d e)) H
theorem room_min {A : Around} {d e : AV} (h : SeqAt.shaped d = true) (hu : A.units + 64 < cLine) : A.units + min d.depth e.depth < cLine := SeqAt.room_of_shaped h hu
theorem op_ordD {X : Cx} {op : CmpOp} {f : Int → Int → Bool} {g : AV → AV → Bool} (hi : OpR X (compareOp op) (rI0 fun i j => .bl (f i j)))
    (hd : ∀ {s : Shared} {a b : Value} {da db : AV} {as bs : List Addr} {Q : Value → Shared → Prop}, Reads s.heap a da as → Reads s.heap b db bs → PySem.W.alike da db = true → da ≠ .none → X.A.units + min da.depth db.depth < cLine → Q (.bool (g da db)) s → wpAny (model X.prog X.w) X.A (compareOp op a b) Q X.xe s)
    (hu : X.A.units + 64 < cLine) : OpR X (compareOp op) (rOrd X.K f g) := OpR.or hi (by
  intro pins s σ H x y v u Q I rx ry h
  obtain ⟨d, e, hd1, he1, s1, s2, al, nn, q⟩ := h
  obtain ⟨as, r1⟩ := Dp.reads I d x v hd1 rx
  obtain ⟨bs, r2⟩ := Dp.reads I e y u he1 ry
  exact hd r1 r2 al nn (room_min s1 hu) ⟨.bl _, H, I, rfl, q⟩)
theorem ord_ok {f : Int → Int → Bool} {g : AV → AV → Bool} {a b d : AV} {x y : V} {Q : VK} (ra : RVp K A H a x) (rb : RVp K A H b y) (e : cmpI f g a b = some d) (q : ∀ v H', PostP K A H false d v H' → Q v H') : rOrd K f g x y H Q := by
  unfold cmpI at e
  split at e
  · cases e
    exact .inl ⟨_, _, ra.int, rb.int, q _ _ post_bl⟩
  · split at e
    · rename_i h
      cases e
      rw [Bool.and_eq_true] at h
      obtain ⟨h1, h2⟩ := eqOk_iff h.1
      exact .inr ⟨_, _, ra.sdp h1, rb.sdp h2, h1, h2, h.2, (fun z => by cases z), q _ _ post_bl⟩
    · cases e
  · cases e
theorem pr_lt : PR K .lt (R2of (rOrd K (fun i j => decide (i < j)) PySem.W.dataLt)) := PR2.of fun A H a b x y d Q ra rb e q => ord_ok ra rb e q
theorem pr_le : PR K .le (R2of (rOrd K (fun i j => decide (i ≤ j)) fun x y => !PySem.W.dataLt y x)) := PR2.of fun A H a b x y d Q ra rb e q => ord_ok ra rb e q
theorem pr_gt : PR K .gt (R2of (rOrd K (fun i j => decide (j < i)) fun x y => PySem.W.dataLt y x)) := PR2.of fun A H a b x y d Q ra rb e q => ord_ok ra rb e q
theorem pr_ge : PR K .ge (R2of (rOrd K (fun i j => decide (j ≤ i)) fun x y => !PySem.W.dataLt x y)) := PR2.of fun A H a b x y d Q ra rb e q => ord_ok ra rb e q
theorem op_ltR {X : Cx} (hu : X.A.units + 64 < cLine) : OpR X (compareOp .Lt) (rOrd X.K (fun i j => decide (i < j)) PySem.W.dataLt) := op_ordD op_lt PySem.W.lt_data hu
theorem op_leR {X : Cx} (hu : X.A.units + 64 < cLine) : OpR X (compareOp .LtE) (rOrd X.K (fun i j => decide (i ≤ j)) fun x y => !PySem.W.dataLt y x) := op_ordD op_le PySem.W.le_data hu
theorem op_gtR {X : Cx} (hu : X.A.units + 64 < cLine) : OpR X (compareOp .Gt) (rOrd X.K (fun i j => decide (j < i)) fun x y => PySem.W.dataLt y x) := op_ordD op_gt PySem.W.gt_data hu
theorem op_geR {X : Cx} (hu : X.A.units + 64 < cLine) : OpR X (compareOp .GtE) (rOrd X.K (fun i j => decide (j ≤ i)) fun x y => !PySem.W.dataLt x y) := op_ordD op_ge PySem.W.ge_data hu
end
end G
namespace G
open PySem PySem.Spec PyProof.Rows L2

section
variable {K : PySem.W.Frag} {A A' : Addr → Prop} {H H' : Hp}

/-! ### dicts -/
theorem keyV_eqv (a b : Key) : PyData.eqv (keyV a) (keyV b) = decide (a = b) := by
  cases a with
  | inl i =>
    cases b with
    | inl j => rw [key_ll]; rfl
    | inr y => rw [key_lr]; rfl
  | inr x =>
    cases b with
    | inl j => rw [key_rl]; rfl
    | inr y => rw [key_rr]; show (x == y) = _; by_cases h : x = y <;> simp [h]
theorem keysV_eqv : ∀ (a b : List Key), PyData.eqvAll (a.map keyV) (b.map keyV) = decide (a = b)
  | [], [] => rfl
  | [], _ :: _ => rfl
  | _ :: _, [] => rfl
  | x :: a, y :: b => by
    show (PyData.eqv (keyV x) (keyV y) && PyData.eqvAll (a.map keyV) (b.map keyV)) = _
    rw [keyV_eqv, keysV_eqv a b]
    by_cases h1 : x = y <;> by_cases h2 : a = b <;> simp [h1, h2]
theorem flatKey_iff {k : AV} (h : flatKey k = true) : ∃ kk : Key, k = keyV kk := by
  cases k with
  | int i => exact ⟨.inl i, rfl⟩
  | str x => exact ⟨.inr x, rfl⟩
  | _ => cases h
theorem flatKeys_iff : ∀ {ks : List AV}, ks.all flatKey = true → ∃ kk : List Key, ks = kk.map keyV
  | [], _ => ⟨[], rfl⟩
  | k :: ks, h => by
    rw [List.all_cons, Bool.and_eq_true] at h
    obtain ⟨a, rfl⟩ := flatKey_iff h.1
    obtain ⟨b, rfl⟩ := flatKeys_iff h.2
    exact ⟨a :: b, rfl⟩
theorem RV.key {kk : Key} {v : V} (r : RV K A H (keyV kk) v) : v = kV kk := by
  cases kk with
  | inl i => cases r; rfl
  | inr x => cases r; rfl
theorem RVp.keyR {kk : Key} {v : V} (r : RVp K A H (keyV kk) v) : v = kV kk := by
  cases kk with
  | inl i => exact r.int
  | inr x => cases r with
    | val r => cases r; rfl
theorem RVs.keys : ∀ {kk : List Key} {vs : List V}, RVs K A H (kk.map keyV) vs → vs = kk.map kV
  | [], _, h => by cases h; rfl
  | k :: ks, _, h => by
    cases h with
    | cons a b => rw [a.key, RVs.keys b]; rfl
theorem RK.look {kk : Key} : ∀ {ds : List (AV × AV)} {kvs : List (Key × V)}, RK K A H ds kvs → (lookD (keyV kk) ds = none ∧ valV kvs kk = none) ∨ ∃ d v, lookD (keyV kk) ds = some d ∧ valV kvs kk = some v ∧ RV K A H d v
  | [], _, h => by cases h; exact .inl ⟨rfl, rfl⟩
  | _ :: ds, _, h => by
    cases h with
    | @cons k d _ v vs a b =>
      by_cases hk : k = kk
      · refine .inr ⟨d, v, ?_, valV_pos (p := (k, v)) hk, a⟩
        rw [lookD, if_pos (by rw [keyV_eqv]; simp [hk])]
      · rw [lookD, if_neg (by rw [keyV_eqv]; simp [hk]), valV_neg (p := (k, v)) hk]
        exact RK.look b
theorem RT.look {kk : List Key} : ∀ {ds : List (AV × AV)} {kvs : List (List Key × V)}, RT K A H ds kvs → (lookD (.tuple (kk.map keyV)) ds = none ∧ valV kvs kk = none) ∨ ∃ d v, lookD (.tuple (kk.map keyV)) ds = some d ∧ valV kvs kk = some v ∧ RV K A H d v
  | [], _, h => by cases h; exact .inl ⟨rfl, rfl⟩
  | _ :: ds, _, h => by
    cases h with
    | @cons k d _ v vs a b =>
      have e : PyData.eqv (.tuple (k.map keyV)) (.tuple (kk.map keyV)) = decide (k = kk) := keysV_eqv k kk
      by_cases hk : k = kk
      · refine .inr ⟨d, v, ?_, valV_pos (p := (k, v)) hk, a⟩
        rw [lookD, if_pos (by rw [e]; simp [hk])]
      · rw [lookD, if_neg (by rw [e]; simp [hk]), valV_neg (p := (k, v)) hk]
        exact RT.look b
/-- a dict read at a key, the key's tuple tracked or of the module -/
def DGetR (K : PySem.W.Frag) (H : Hp) (a : Addr) (y : V) (r : Option V) : Prop :=
  DGet H a y r ∨ ∃ kvs k b, H a = some (.dT kvs) ∧ y = .ref b ∧ SqT K H b (k.map kV) ∧ r = valV kvs k
theorem dict_look {x : AV} {y : V} {t : Int} {kvs : List (AV × AV)} {v : V} (rd : RVp K A H (.dict ((.none, .int t) :: kvs)) v) (rx : RVp K A H x y) (hk : keyOk t.toNat x = true) :
    ∃ a, v = .ref a ∧ ((lookD x kvs = none ∧ DGetR K H a y none) ∨ ∃ d u, lookD x kvs = some d ∧ DGetR K H a y (some u) ∧ RV K A H d u) := by
  have kc : ∀ {a : Addr} {ks : List (Key × V)}, H a = some (.dK ks) → RK K A H kvs ks → flatKey x = true → ((lookD x kvs = none ∧ DGetR K H a y none) ∨ ∃ d u, lookD x kvs = some d ∧ DGetR K H a y (some u) ∧ RV K A H d u) := fun {a ks} e rk hf => by
    obtain ⟨kk, rfl⟩ := flatKey_iff hf
    have ey : y = kV kk := by
      exact rx.keyR
    subst ey
    rcases rk.look (kk := kk) with ⟨h1, h2⟩ | ⟨d, u, h1, h2, h3⟩
    · exact .inl ⟨h1, .inl (h2 ▸ DGet.k e)⟩
    · exact .inr ⟨d, u, h1, .inl (h2 ▸ DGet.k e), h3⟩
  have tc : ∀ {a : Addr} {ks : List (List Key × V)}, H a = some (.dT ks) → RT K A H kvs ks → keyOk 1 x = true → ((lookD x kvs = none ∧ DGetR K H a y none) ∨ ∃ d u, lookD x kvs = some d ∧ DGetR K H a y (some u) ∧ RV K A H d u) := fun {a ks} e rk hf => by
    cases x with
    | tuple xs =>
      obtain ⟨kk, rfl⟩ := flatKeys_iff (show xs.all flatKey = true from hf)
      obtain ⟨b, us, rfl, sq, rs⟩ := rx.tuple.tuple
      have := rs.keys
      subst this
      rcases rk.look (kk := kk) with ⟨h1, h2⟩ | ⟨d, u, h1, h2, h3⟩
      · exact .inl ⟨h1, .inr ⟨ks, kk, b, e, rfl, sq, h2.symm⟩⟩
      · exact .inr ⟨d, u, h1, .inr ⟨ks, kk, b, e, rfl, sq, h2.symm⟩, h3⟩
    | _ => cases hf
  cases rd with
  | val r => cases r with
    | dK e n rk => exact ⟨_, rfl, kc e rk hk⟩
    | dT e n rk => exact ⟨_, rfl, tc e rk hk⟩
  | dK e rk => exact ⟨_, rfl, kc e rk hk⟩
  | dT e rk => exact ⟨_, rfl, tc e rk hk⟩
section
variable {X : Cx} {pins : List (Addr × Obj)} {σ : St} {s : Shared} {a : Addr} {y v : V} {u r : Value} {o : Option V} {E : Value → Shared → Prop}
theorem key_sq {k : List Key} {b : Addr} (I : L2.Inv X pins σ H s) (sq : SqT X.K H b (k.map kV)) : (tupleKind (mixKind X.prog X.w)).is s.heap k b := by
  obtain ⟨its, r, ⟨o, h1, h2, n, h3⟩, _⟩ := I.tuple sq
  exact ⟨o, its.toArray, n, h1, h2, h3, by simpa using items_are r⟩
theorem dR_getItem {Q : Value → Shared → Prop} (hu : X.A.units + 1 < cLine) (I : L2.Inv X pins σ H s) (g : DGetR X.K H a y (some v)) (ry : RelV y u) (h : ∀ w' s', L2.Inv X pins σ H s' → RelV v w' → Q w' s') :
    wpAny (model X.prog X.w) X.A (getItem (.ref a) u) Q E s := by
  rcases g with g | ⟨kvs, k, b, e, ey, sq, l⟩
  · exact d_getItem hu I g ry h
  · subst ey
    cases (show u = Value.ref b from ry)
    obtain ⟨z, hd, xs, rel, dd⟩ := dt_rd I.hok (.inl e)
    obtain ⟨w', hw, rw'⟩ := RelO.some_of (v := v) (o := (atKey xs k).map (·.2)) (by rw [l]; exact rel.val k)
    obtain ⟨p, hp, hp2⟩ := Option.map_eq_some_iff.mp hw
    refine wpAny_getItem_heap (tupleKind_room_in1 hu) (key_sq I sq) dd hp ?_
    rw [hp2]
    exact h w' _ (I.tok _) rw'
theorem dR_in {Q : Value → Shared → Prop} (hu : X.A.units + 1 < cLine) (I : L2.Inv X pins σ H s) (g : DGetR X.K H a y o) (ry : RelV y u) (h : ∀ s', L2.Inv X pins σ H s' → Q (.bool o.isSome) s') :
    wpAny (model X.prog X.w) X.A (compareOp .In u (.ref a)) Q E s := by
  rcases g with g | ⟨kvs, k, b, e, ey, sq, l⟩
  · exact d_in hu I g ry h
  · subst ey
    cases (show u = Value.ref b from ry)
    obtain ⟨z, hd, xs, rel, dd⟩ := dt_rd I.hok (.inl e)
    refine wpAny_in_heap (tupleKind_room_in1 hu) (key_sq I sq) hd dd ?_
    have q := (rel.val k).isSome_eq
    rw [Option.isSome_map] at q
    rw [← q, ← l]
    exact h _ (I.tok _)
theorem dR_notIn {Q : Value → Shared → Prop} (hu : X.A.units + 1 < cLine) (I : L2.Inv X pins σ H s) (g : DGetR X.K H a y o) (ry : RelV y u) (h : ∀ s', L2.Inv X pins σ H s' → Q (.bool (!o.isSome)) s') :
    wpAny (model X.prog X.w) X.A (compareOp .NotIn u (.ref a)) Q E s := by
  rcases g with g | ⟨kvs, k, b, e, ey, sq, l⟩
  · exact d_notIn hu I g ry h
  · subst ey
    cases (show u = Value.ref b from ry)
    obtain ⟨z, hd, xs, rel, dd⟩ := dt_rd I.hok (.inl e)
    refine wpAny_notIn_heap (tupleKind_room_in1 hu) (key_sq I sq) hd dd ?_
    have q := (rel.val k).isSome_eq
    rw [Option.isSome_map] at q
    rw [← q, ← l]
    exact h _ (I.tok _)
end

/-! ### in, not in -/
def rInR (K : PySem.W.Frag) : R2 := fun x y H Q => rInD K x y H Q ∨
  (∃ d ds, Dp K H x d ∧ Dp K H y (.tuple ds) ∧ SeqAt.shaped d = true ∧ SeqAt.shaped (.tuple ds) = true ∧ Q (.bl (ds.any fun z => PyData.eqv z d)) H) ∨ ∃ a o, y = .ref a ∧ DGetR K H a x o ∧ Q (.bl o.isSome) H
def rNotInR (K : PySem.W.Frag) : R2 := fun x y H Q => rNotInD K x y H Q ∨
  (∃ d ds, Dp K H x d ∧ Dp K H y (.tuple ds) ∧ SeqAt.shaped d = true ∧ SeqAt.shaped (.tuple ds) = true ∧ Q (.bl (!ds.any fun z => PyData.eqv z d)) H) ∨ ∃ a o, y = .ref a ∧ DGetR K H a x o ∧ Q (.bl !o.isSome) H
mutual
theorem plain_of : ∀ (d : AV), d.canLay0 = true → d.plain = true
  | .none, _ => rfl
  | .bool _, _ => rfl
  | .int _, _ => rfl
  | .str _, _ => rfl
  | .list xs, h => plainAll_of xs (by simpa [PyData.canLay0] using h)
  | .tuple xs, h => plainAll_of xs (by simpa [PyData.canLay0] using h)
  | .dict _, h => by simp [PyData.canLay0] at h
theorem plainAll_of : ∀ (ds : List AV), PyData.canLayAll0 ds = true → PyData.plainAll ds = true
  | [], _ => rfl
  | d :: ds, h => by
    simp only [PyData.canLayAll0, Bool.and_eq_true] at h
    show (d.plain && PyData.plainAll ds) = true
    rw [plain_of d h.1, plainAll_of ds h.2]; rfl
end
theorem op_inT {X : Cx} (hu : X.A.units + 65 < cLine) : OpR X (compareOp .In) (fun x y H Q => ∃ d ds, Dp X.K H x d ∧ Dp X.K H y (.tuple ds) ∧ SeqAt.shaped d = true ∧ SeqAt.shaped (.tuple ds) = true ∧ Q (.bl (ds.any fun z => PyData.eqv z d)) H) := by
  intro pins s σ H x y v u Q I rx ry h
  obtain ⟨d, ds, hd, hs, sd, ss, q⟩ := h
  obtain ⟨as, r1⟩ := Dp.reads I d x v hd rx
  obtain ⟨bs, r2⟩ := Dp.reads I _ y u hs ry
  have h1 := SeqAt.canLay_of_shaped sd
  have h2 := SeqAt.canLay_of_shaped ss
  exact PySem.SeqAt.in_tuple_data r2 r1 (plainAll_of ds (by simpa [PyData.canLay0] using h2)) (plain_of d h1) (by
    have := SeqAt.depth_of_shaped sd
    have q : min (PyData.depthAll ds) d.depth ≤ d.depth := Nat.min_le_right _ _
    omega) ⟨.bl _, H, I, rfl, q⟩
theorem op_notInT {X : Cx} (hu : X.A.units + 65 < cLine) : OpR X (compareOp .NotIn) (fun x y H Q => ∃ d ds, Dp X.K H x d ∧ Dp X.K H y (.tuple ds) ∧ SeqAt.shaped d = true ∧ SeqAt.shaped (.tuple ds) = true ∧ Q (.bl (!ds.any fun z => PyData.eqv z d)) H) := by
  intro pins s σ H x y v u Q I rx ry h
  obtain ⟨d, ds, hd, hs, sd, ss, q⟩ := h
  obtain ⟨as, r1⟩ := Dp.reads I d x v hd rx
  obtain ⟨bs, r2⟩ := Dp.reads I _ y u hs ry
  have h1 := SeqAt.canLay_of_shaped sd
  have h2 := SeqAt.canLay_of_shaped ss
  exact PySem.SeqAt.notIn_tuple_data r2 r1 (plainAll_of ds (by simpa [PyData.canLay0] using h2)) (plain_of d h1) (by
    have := SeqAt.depth_of_shaped sd
    have q : min (PyData.depthAll ds) d.depth ≤ d.depth := Nat.min_le_right _ _
    omega) ⟨.bl _, H, I, rfl, q⟩
theorem op_inDc {X : Cx} (hu : X.A.units + 65 < cLine) : OpR X (compareOp .In) (fun x y H Q => ∃ a o, y = .ref a ∧ DGetR X.K H a x o ∧ Q (.bl o.isSome) H) := by
  intro pins s σ H x y v u Q I rx ry h
  obtain ⟨a, o, rfl, g, q⟩ := h
  cases ry
  exact dR_in (by omega) I g rx fun s' I' => ⟨.bl _, H, I', rfl, q⟩
theorem op_notInDc {X : Cx} (hu : X.A.units + 65 < cLine) : OpR X (compareOp .NotIn) (fun x y H Q => ∃ a o, y = .ref a ∧ DGetR X.K H a x o ∧ Q (.bl !o.isSome) H) := by
  intro pins s σ H x y v u Q I rx ry h
  obtain ⟨a, o, rfl, g, q⟩ := h
  cases ry
  exact dR_notIn (by omega) I g rx fun s' I' => ⟨.bl _, H, I', rfl, q⟩
theorem op_inR {X : Cx} (hu : X.A.units + 65 < cLine) : OpR X (compareOp .In) (rInR X.K) := OpR.or (op_inD hu) (OpR.or (op_inT hu) (op_inDc hu))
theorem op_notInR {X : Cx} (hu : X.A.units + 65 < cLine) : OpR X (compareOp .NotIn) (rNotInR X.K) := OpR.or (op_notInD hu) (OpR.or (op_notInT hu) (op_notInDc hu))
theorem in_ok {a b : AV} {x y : V} {k : Bool} {Q : VK} (ra : RVp K A H a x) (rb : RVp K A H b y) (e : inS a b = some k) : (Q (.bl k) H → rInR K x y H Q) ∧ (Q (.bl !k) H → rNotInR K x y H Q) := by
  unfold inS at e
  split at e
  · split at e
    · rename_i h
      cases e
      obtain ⟨h1, h2⟩ := eqOk_iff h
      exact ⟨fun q => .inl ⟨_, _, ra.sdp h1, rb.sdp h2, h1, h2, q⟩, fun q => .inl ⟨_, _, ra.sdp h1, rb.sdp h2, h1, h2, q⟩⟩
    · cases e
  · split at e
    · rename_i h
      cases e
      obtain ⟨h1, h2⟩ := eqOk_iff h
      exact ⟨fun q => .inr (.inl ⟨_, _, ra.sdp h1, rb.sdp h2, h1, h2, q⟩), fun q => .inr (.inl ⟨_, _, ra.sdp h1, rb.sdp h2, h1, h2, q⟩)⟩
    · cases e
  · rename_i k0 t kvs
    split at e
    · rename_i h
      cases e
      have hk0 : k0 = .none := by
        cases rb with
        | val r => cases r <;> rfl
        | dK _ _ => rfl
        | dT _ _ => rfl
      subst hk0
      obtain ⟨a', rfl, g⟩ := dict_look rb ra h
      rcases g with ⟨h1, h2⟩ | ⟨d, u, h1, h2, _⟩
      · rw [h1]; exact ⟨fun q => .inr (.inr ⟨_, _, rfl, h2, q⟩), fun q => .inr (.inr ⟨_, _, rfl, h2, q⟩)⟩
      · rw [h1]; exact ⟨fun q => .inr (.inr ⟨_, _, rfl, h2, q⟩), fun q => .inr (.inr ⟨_, _, rfl, h2, q⟩)⟩
    · cases e
  · cases e
theorem pr_in : PR K .isin (R2of (rInR K)) := PR2.of fun A H a b x y d Q ra rb e q => by
  change (inS a b).map PyData.bool = some d at e
  cases h : inS a b with
  | none => rw [h] at e; cases e
  | some k => rw [h] at e; cases e; exact (in_ok ra rb h).1 (q _ _ post_bl)
theorem pr_notin : PR K .notin (R2of (rNotInR K)) := PR2.of fun A H a b x y d Q ra rb e q => by
  change (inS a b).map (fun k => PyData.bool !k) = some d at e
  cases h : inS a b with
  | none => rw [h] at e; cases e
  | some k => rw [h] at e; cases e; exact (in_ok ra rb h).2 (q _ _ post_bl)
end
end G
namespace G
open PySem PySem.Spec PyProof.Rows L2

section
variable {K : PySem.W.Frag} {A A' : Addr → Prop} {H H' : Hp}
/-- a call's reading of one, of two values -/
def C1 (r : V → Hp → VK → Prop) : List V → Hp → VK → Prop := fun vs H Q => ∃ x, vs = [x] ∧ r x H Q
def C2 (r : R2) : List V → Hp → VK → Prop := fun vs H Q => ∃ x y, vs = [x, y] ∧ r x y H Q

/-! ### is -/
theorem isNon_iff {a : AV} {x : V} (r : RVp K A H a x) : decide (x = V.non) = isNonS a := by
  cases r with
  | val r => cases r <;> simp [isNonS]
  | lst e rs => simp [isNonS]
  | dK e rs => simp [isNonS]
  | dT e rs => simp [isNonS]
theorem pr_isN : PR K .isN (R1of fun x H Q => Q (.bl (decide (x = .non))) H) := PR1.of fun A H a x d Q ra e q => by
  cases e
  rw [isNon_iff ra]; exact q _ _ post_bl
theorem pr_notN : PR K .notN (R1of fun x H Q => Q (.bl (!decide (x = .non))) H) := PR1.of fun A H a x d Q ra e q => by
  cases e
  rw [isNon_iff ra]; exact q _ _ post_bl
theorem pr_isB {k : Bool} : PR K (.isB k) (R1of fun x H Q => ∃ b, x = .bl b ∧ Q (.bl (decide (b = k))) H) := PR1.of fun A H a x d Q ra e q => by
  cases a <;> first
    | (cases e
       refine ⟨_, ?_, q _ _ post_bl⟩
       cases ra with
       | val r => cases r; rfl)
    | cases e

/-! ### len, abs, max, min, sum, all, any -/
def rLenR (K : PySem.W.Frag) : V → Hp → VK → Prop := fun x H Q => ∃ n, LenV K x H n ∧ Q (.int n) H
theorem call_lenR {X : Cx} : CallR X (.builtin "len") (C1 (rLenR X.K)) := by
  intro pins s σ H xs us Q I r h
  obtain ⟨x, rfl, n, e, q⟩ := h
  exact call_len pins s σ H _ us Q I r ⟨x, n, rfl, e, q⟩
theorem pr_len : PR K .len (R1of (rLenR K)) := PR1.of fun A H a x d Q ra e q => by
  cases a <;> first
    | (cases e
       obtain ⟨l, xs, rfl, h, rs⟩ := ra.list
       exact ⟨_, .inl ⟨xs, .inl (.inl h), rfl⟩, by rw [← rs.length]; exact q _ _ post_int⟩)
    | (cases e
       obtain ⟨l, xs, rfl, h, rs⟩ := ra.tuple.tuple
       exact ⟨_, .inr ⟨xs, h, rfl⟩, by rw [← rs.length]; exact q _ _ post_int⟩)
    | cases e
def rAbsR : V → Hp → VK → Prop := fun x H Q => ∃ i, x = .int i ∧ Q (.int (if i < 0 then -i else i)) H
theorem call_absR {X : Cx} : CallR X (.builtin "abs") (C1 rAbsR) := by
  intro pins s σ H xs us Q I r h
  obtain ⟨x, rfl, i, rfl, q⟩ := h
  exact call_abs pins s σ H _ us Q I r ⟨i, rfl, q⟩
theorem pr_abs : PR K .abs (R1of rAbsR) := PR1.of fun A H a x d Q ra e q => by
  cases a <;> first | (cases e; exact ⟨_, ra.int, q _ _ post_int⟩) | cases e
def rMax2 : R2 := fun x y H Q => ∃ i j, x = .int i ∧ y = .int j ∧ Q (.int (if j > i then j else i)) H
def rMin2 : R2 := fun x y H Q => ∃ i j, x = .int i ∧ y = .int j ∧ Q (.int (if j < i then j else i)) H
theorem call_max2R {X : Cx} (hc : X.calm = true) : CallR X (.builtin "max") (C2 rMax2) := by
  intro pins s σ H xs us Q I r h
  obtain ⟨x, y, rfl, i, j, rfl, rfl, q⟩ := h
  exact call_max2 hc pins s σ H _ us Q I r ⟨i, j, rfl, q⟩
theorem call_min2R {X : Cx} (hc : X.calm = true) : CallR X (.builtin "min") (C2 rMin2) := by
  intro pins s σ H xs us Q I r h
  obtain ⟨x, y, rfl, i, j, rfl, rfl, q⟩ := h
  exact call_min2 hc pins s σ H _ us Q I r ⟨i, j, rfl, q⟩
theorem pr_max2 : PR K .max2 (R2of rMax2) := PR2.of fun A H a b x y d Q ra rb e q => by
  cases a <;> cases b <;> first | (cases e; exact ⟨_, _, ra.int, rb.int, q _ _ post_int⟩) | cases e
theorem pr_min2 : PR K .min2 (R2of rMin2) := PR2.of fun A H a b x y d Q ra rb e q => by
  cases a <;> cases b <;> first | (cases e; exact ⟨_, _, ra.int, rb.int, q _ _ post_int⟩) | cases e

/-- a list or a tuple of ints -/
def IntsAt (K : PySem.W.Frag) (H : Hp) (x : V) (ns : List Int) : Prop := ∃ a, x = .ref a ∧ (SqL K H a (ns.map V.int) ∨ SqT K H a (ns.map V.int))
theorem intsAt {a : AV} {x : V} {ds : List AV} {ns : List Int} (r : RVp K A H a x) (e : items? a = some ds) (e' : intsL ds = some ns) : IntsAt K H x ns := by
  cases a with
  | list xs =>
    cases e
    obtain ⟨l, vs, rfl, h, rs⟩ := r.list
    obtain ⟨_, e2⟩ := rs.ints e'
    exact ⟨l, rfl, .inl (.inl (.inl (e2 ▸ h)))⟩
  | tuple xs =>
    cases e
    obtain ⟨l, vs, rfl, h, rs⟩ := r.tuple.tuple
    obtain ⟨_, e2⟩ := rs.ints e'
    exact ⟨l, rfl, .inr (e2 ▸ h)⟩
  | _ => cases e
def rSumR (K : PySem.W.Frag) : V → Hp → VK → Prop := fun x H Q => ∃ ns, IntsAt K H x ns ∧ Q (.int ns.sum) H
theorem call_sumR {X : Cx} (hc : X.calm = true) : CallR X (.builtin "sum") (C1 (rSumR X.K)) := by
  intro pins s σ H xs us Q I r h
  obtain ⟨x, rfl, ns, ⟨a, rfl, hs | hs⟩, q⟩ := h
  · exact cr_sum hc pins s σ H _ us Q I r ⟨a, ns, rfl, hs, q⟩
  · obtain ⟨its, rv, ht, _⟩ := I.tuple hs
    rw [Vals.ref1 r]
    have hi := rv.ints
    obtain ⟨xs, hx⟩ := hi.allInts.items
    have hn : numsOf (intItems xs).toList = ns := by rw [← hx]; exact hi.numsOf
    rw [nums_intItems] at hn
    rw [hx] at ht
    refine PySem.W.ktm_sumG (I.ok.hd hc) ht fun h' tk t' hk => ⟨.int ns.sum, H, I.kept hk, ⟨t', ?_⟩, q⟩
    rw [preSum_eq, List.take_of_length_le (by simp), hn]
theorem pr_sum : PR K .sum (R1of (rSumR K)) := PR1.of fun A H a x d Q ra e q => by
  change ((items? a).bind intsL).map (fun ns => PyData.int ns.sum) = some d at e
  cases e1 : items? a with
  | none => rw [e1] at e; cases e
  | some ds =>
    cases e2 : intsL ds with
    | none => rw [e1] at e; simp [e2] at e
    | some ns =>
      rw [e1] at e
      simp [e2] at e
      subst e
      exact ⟨ns, intsAt ra e1 e2, q _ _ post_int⟩
/-- greatest, least -/
def rMaxR (K : PySem.W.Frag) : V → Hp → VK → Prop := fun x H Q => ∃ n ns, IntsAt K H x (n :: ns) ∧ Q (.int (ns.foldl max n)) H
def rMinR (K : PySem.W.Frag) : V → Hp → VK → Prop := fun x H Q => ∃ n ns, IntsAt K H x (n :: ns) ∧ Q (.int (ns.foldl min n)) H
theorem foldl_max_mem : ∀ (ns : List Int) (n : Int), ns.foldl max n ∈ n :: ns ∧ ∀ y, y ∈ n :: ns → y ≤ ns.foldl max n
  | [], n => ⟨List.mem_cons_self, fun y h => by simp at h; simp [h]⟩
  | m :: ns, n => by
    obtain ⟨h1, h2⟩ := foldl_max_mem ns (max n m)
    rw [List.foldl_cons]
    refine ⟨?_, fun y hy => ?_⟩
    · rcases List.mem_cons.mp h1 with h | h
      · rw [h]
        by_cases q : n ≤ m
        · rw [Int.max_eq_right q]; exact List.mem_cons_of_mem _ List.mem_cons_self
        · rw [Int.max_eq_left (by omega)]; exact List.mem_cons_self
      · exact List.mem_cons_of_mem _ (List.mem_cons_of_mem _ h)
    · have h3 := h2 (max n m) List.mem_cons_self
      rcases List.mem_cons.mp hy with h | h
      · subst h; omega
      · rcases List.mem_cons.mp h with h | h
        · subst h; omega
        · exact h2 y (List.mem_cons_of_mem _ h)
theorem foldl_min_mem : ∀ (ns : List Int) (n : Int), ns.foldl min n ∈ n :: ns ∧ ∀ y, y ∈ n :: ns → ns.foldl min n ≤ y
  | [], n => ⟨List.mem_cons_self, fun y h => by simp at h; simp [h]⟩
  | m :: ns, n => by
    obtain ⟨h1, h2⟩ := foldl_min_mem ns (min n m)
    rw [List.foldl_cons]
    refine ⟨?_, fun y hy => ?_⟩
    · rcases List.mem_cons.mp h1 with h | h
      · rw [h]
        by_cases q : n ≤ m
        · rw [Int.min_eq_left q]; exact List.mem_cons_self
        · rw [Int.min_eq_right (by omega)]; exact List.mem_cons_of_mem _ List.mem_cons_self
      · exact List.mem_cons_of_mem _ (List.mem_cons_of_mem _ h)
    · have h3 := h2 (min n m) List.mem_cons_self
      rcases List.mem_cons.mp hy with h | h
      · subst h; omega
      · rcases List.mem_cons.mp h with h | h
        · subst h; omega
        · exact h2 y (List.mem_cons_of_mem _ h)
theorem alike_intsAll (l : List Int) : PySem.W.AlikeAll (l.map PyData.int) := by
  constructor
  · intro x hx y hy
    obtain ⟨i, _, rfl⟩ := List.mem_map.mp hx
    obtain ⟨j, _, rfl⟩ := List.mem_map.mp hy
    simp [PySem.W.alike]
  · intro x hx
    obtain ⟨i, _, rfl⟩ := List.mem_map.mp hx
    simp
theorem canLay_ints : ∀ (l : List Int), PyData.canLayAll0 (l.map PyData.int) = true
  | [] => rfl
  | n :: r => by
    simp only [List.map_cons, PyData.canLayAll0, Bool.and_eq_true]
    exact ⟨rfl, canLay_ints r⟩
theorem depthAll_ints : ∀ (l : List Int), PyData.depthAll (l.map PyData.int) ≤ 1
  | [] => by simp [PyData.depthAll]
  | n :: r => by
    have := depthAll_ints r
    simp only [List.map_cons, PyData.depthAll, PyData.depth]
    omega
theorem reads_int {h : Heap} {v : Value} {i : Int} {as : List Addr} (r : Reads h v (.int i) as) : ∃ t, v = .int i t := by
  cases r; exact ⟨_, rfl⟩
theorem call_maxR {X : Cx} (hc : X.calm = true) (hu : X.A.units + 65 < cLine) : CallR X (.builtin "max") (C1 (rMaxR X.K)) := by
  intro pins s σ H xs us Q I r h
  obtain ⟨x, rfl, n, ns, ⟨a, rfl, hs | hs⟩, q⟩ := h
  · refine cr_max hc pins s σ H _ us Q I r ⟨a, _, rfl, hs, by simp, fun m h1 h2 => ?_⟩
    obtain ⟨g1, g2⟩ := foldl_max_mem ns n
    have : m = ns.foldl max n := Int.le_antisymm (g2 m h1) (h2 _ g1)
    rw [this]; exact q
  · obtain ⟨its, rv, ht, _⟩ := I.tuple hs
    rw [Vals.ref1 r]
    obtain ⟨as, h4⟩ := Dp.readsAll I ((n :: ns).map PyData.int) _ its ((RVs.ofInts (K := X.K) (A := fun _ => False) (H := H) (n :: ns)).dp (canLay_ints _)) rv
    have hd := depthAll_ints (n :: ns)
    refine PySem.W.max_tuple_data (vs := its.toArray) (I.ok.hd hc) ht (by simpa using h4) (alike_intsAll (n :: ns)) (by rw [List.map_cons] at hd; omega) fun i v h' tk bs hv rd hk => ?_
    rw [PySem.W.maxD_ints] at rd
    obtain ⟨t, rfl⟩ := reads_int rd
    exact ⟨.int _, H, I.kept hk, ⟨t, rfl⟩, q⟩
theorem call_minR {X : Cx} (hc : X.calm = true) (hu : X.A.units + 65 < cLine) : CallR X (.builtin "min") (C1 (rMinR X.K)) := by
  intro pins s σ H xs us Q I r h
  obtain ⟨x, rfl, n, ns, ⟨a, rfl, hs | hs⟩, q⟩ := h
  · refine cr_min hc pins s σ H _ us Q I r ⟨a, _, rfl, hs, by simp, fun m h1 h2 => ?_⟩
    obtain ⟨g1, g2⟩ := foldl_min_mem ns n
    have : m = ns.foldl min n := Int.le_antisymm (h2 _ g1) (g2 m h1)
    rw [this]; exact q
  · obtain ⟨its, rv, ht, _⟩ := I.tuple hs
    rw [Vals.ref1 r]
    obtain ⟨as, h4⟩ := Dp.readsAll I ((n :: ns).map PyData.int) _ its ((RVs.ofInts (K := X.K) (A := fun _ => False) (H := H) (n :: ns)).dp (canLay_ints _)) rv
    have hd := depthAll_ints (n :: ns)
    refine PySem.W.min_tuple_data (vs := its.toArray) (I.ok.hd hc) ht (by simpa using h4) (alike_intsAll (n :: ns)) (by rw [List.map_cons] at hd; omega) fun i v h' tk bs hv rd hk => ?_
    rw [PySem.W.minD_ints] at rd
    obtain ⟨t, rfl⟩ := reads_int rd
    exact ⟨.int _, H, I.kept hk, ⟨t, rfl⟩, q⟩
theorem foldl_fun {f g : Int → Int → Int} (h : ∀ a b, f a b = g a b) (ns : List Int) (n : Int) : ns.foldl f n = ns.foldl g n := by
  rw [show f = g from funext fun a => funext fun b => h a b]
theorem items_bind {a : AV} {d : AV} {f : List Int → Option Int} (e : (((items? a).bind intsL).bind fun ns => (f ns).map PyData.int) = some d) : ∃ ds ns i, items? a = some ds ∧ intsL ds = some ns ∧ f ns = some i ∧ d = .int i := by
  cases e1 : items? a with
  | none => rw [e1] at e; cases e
  | some ds =>
    cases e2 : intsL ds with
    | none => rw [e1] at e; simp [e2] at e
    | some ns =>
      cases e3 : f ns with
      | none => rw [e1] at e; simp [e2, e3] at e
      | some i =>
        rw [e1] at e
        simp [e2, e3] at e
        exact ⟨ds, ns, i, rfl, e2, e3, e.symm⟩
theorem pr_max1 : PR K .max1 (R1of (rMaxR K)) := PR1.of fun A H a x d Q ra e q => by
  change (((items? a).bind intsL).bind fun ns => (maxI ns).map PyData.int) = some d at e
  obtain ⟨ds, ns, i, e1, e2, e3, rfl⟩ := items_bind e
  cases ns with
  | nil => cases e3
  | cons n ns =>
    cases e3
    refine ⟨n, ns, intsAt ra e1 e2, ?_⟩
    rw [foldl_fun (f := fun m y => if y > m then y else m) (g := max) (fun a b => by split <;> omega)] at q
    exact q _ _ post_int
theorem pr_min1 : PR K .min1 (R1of (rMinR K)) := PR1.of fun A H a x d Q ra e q => by
  change (((items? a).bind intsL).bind fun ns => (minI ns).map PyData.int) = some d at e
  obtain ⟨ds, ns, i, e1, e2, e3, rfl⟩ := items_bind e
  cases ns with
  | nil => cases e3
  | cons n ns =>
    cases e3
    refine ⟨n, ns, intsAt ra e1 e2, ?_⟩
    rw [foldl_fun (f := fun m y => if y < m then y else m) (g := min) (fun a b => by split <;> omega)] at q
    exact q _ _ post_int
/-- all, any of a list of bools -/
def rAllR (K : PySem.W.Frag) : V → Hp → VK → Prop := fun x H Q => rAll K [x] H Q
def rAnyR (K : PySem.W.Frag) : V → Hp → VK → Prop := fun x H Q => rAny K [x] H Q
theorem call_allR {X : Cx} (hc : X.calm = true) : CallR X (.builtin "all") (C1 (rAllR X.K)) := by
  intro pins s σ H xs us Q I r h
  obtain ⟨x, rfl, q⟩ := h
  exact cr_all hc pins s σ H _ us Q I r q
theorem call_anyR {X : Cx} (hc : X.calm = true) : CallR X (.builtin "any") (C1 (rAnyR X.K)) := by
  intro pins s σ H xs us Q I r h
  obtain ⟨x, rfl, q⟩ := h
  exact cr_any hc pins s σ H _ us Q I r q
theorem pr_all : PR K .all (R1of (rAllR K)) := PR1.of fun A H a x d Q ra e q => by
  cases a with
  | list xs =>
    change (boolsL xs).map (fun bs => PyData.bool (bs.all id)) = some d at e
    cases e1 : boolsL xs with
    | none => rw [e1] at e; cases e
    | some bs =>
      rw [e1] at e; cases e
      obtain ⟨l, vs, rfl, h, rs⟩ := ra.list
      have := rs.bools e1
      subst this
      exact ⟨l, bs, rfl, .inl (.inl h), q _ _ post_bl⟩
  | _ => cases e
theorem pr_any : PR K .any (R1of (rAnyR K)) := PR1.of fun A H a x d Q ra e q => by
  cases a with
  | list xs =>
    change (boolsL xs).map (fun bs => PyData.bool (bs.any id)) = some d at e
    cases e1 : boolsL xs with
    | none => rw [e1] at e; cases e
    | some bs =>
      rw [e1] at e; cases e
      obtain ⟨l, vs, rfl, h, rs⟩ := ra.list
      have := rs.bools e1
      subst this
      exact ⟨l, bs, rfl, .inl (.inl h), q _ _ post_bl⟩
  | _ => cases e
end
end G
namespace G
open PySem PySem.Spec PyProof.Rows L2

section
variable {K : PySem.W.Frag} {A A' : Addr → Prop} {H H' : Hp}
theorem post_new {fr : Bool} {d : AV} {p : Addr} {x : HO} (hp : H p = none) (c : Cont K A H d x) : PostP K A H fr d (.ref p) (upd H p x) := .inr ⟨p, x, hp, rfl, rfl, c⟩
theorem post_old {d : AV} {v : V} (r : RV K A H d v) : PostP K A H false d v H := .inl ⟨rfl, rfl, r⟩

/-! ### isinstance -/
def Ty.nm : Ty → String
  | .int => "int" | .bool => "bool" | .str => "str" | .tuple => "tuple" | .list => "list" | .dict => "dict"
def tyN : AV → String
  | .none => "NoneType" | .bool _ => "bool" | .int _ => "int" | .str _ => "str" | .list _ => "list" | .tuple _ => "tuple" | .dict _ => "dict"
theorem tyX_of {a : AV} {x : V} (r : RVp K A H a x) : TyX K H x (.type (tyN a)) := by
  cases r with
  | val r =>
    cases r with
    | non => exact .base .non
    | bl b => exact .base (.bl b)
    | int i => exact .base (.int i)
    | str i => exact .base (.str i)
    | lst e n rs => exact .base (.lst e)
    | tup e n rs => exact .base (.tup e)
    | tupK e1 e2 e3 e4 e5 rs => exact .kTuple e1 e2
    | dK e n rs => exact .base (.dK e)
    | dT e n rs => exact .base (.dT e)
  | lst e rs => exact .base (.lst e)
  | dK e rs => exact .base (.dK e)
  | dT e rs => exact .base (.dT e)
def rIsiR (K : PySem.W.Frag) (t : Ty) : V → Hp → VK → Prop := fun x H Q => ∃ n b, TyX K H x (.type n) ∧ kitB n t.nm = some b ∧ Q (.bl b) H
theorem call_isiR {X : Cx} (t : Ty) : CallR X (.builtin "isinstance") (fun vs H Q => ∃ x, vs = [x, .ty t.nm] ∧ rIsiR X.K t x H Q) := by
  intro pins s σ H xs us Q I r h
  obtain ⟨x, rfl, n, b, ty, e, q⟩ := h
  exact call_isi pins s σ H _ us Q I r ⟨x, _, _, _, b, rfl, .ty _, ty, kit_ty e, q⟩
theorem kit_is {t : Ty} {a : AV} : kitB (tyN a) t.nm = some (isTy t a) := by
  cases t <;> cases a <;> simp only [tyN, isTy, Ty.nm] <;> decide +kernel
theorem pr_isi {t : Ty} : PR K (.isi t) (R1of (rIsiR K t)) := PR1.of fun A H a x d Q ra e q => by
  cases e
  exact ⟨_, _, tyX_of ra, kit_is, q _ _ post_bl⟩

/-! ### displays -/
def rMkTup : List V → Hp → VK → Prop := fun xs H Q => xs.length ≤ sizeLine ∧ ∀ p, H p = none → Q (.ref p) (upd H p (.tup xs))
theorem pe_tupR {X : Cx} {es : List Expr} {t : TA} {x1} {pos : Pos} (h : PA X es t) : PE X (.Tuple es x1 pos) (fun σ H Q => t σ H fun vs H2 => rMkTup vs H2 Q) := PE.imp (pe_tup h) fun σ H Q q => q

/-! ### int, tuple, list -/
def rIntR : V → Hp → VK → Prop := fun x H Q => ∃ i, x = .int i ∧ Q (.int i) H
theorem call_intR {X : Cx} : CallR X (.type "int") (C1 rIntR) := by
  intro pins s σ H xs us Q I r h
  obtain ⟨x, rfl, i, rfl, q⟩ := h
  exact call_int1 pins s σ H _ us Q I r (.inl ⟨i, rfl, q⟩)
theorem pr_int1 : PR K .int1 (R1of rIntR) := PR1.of fun A H a x d Q ra e q => by
  cases a <;> first | (cases e; exact ⟨_, ra.int, q _ _ post_int⟩) | cases e
def rTupR (K : PySem.W.Frag) : V → Hp → VK → Prop := fun x H Q => ∃ p ys, x = .ref p ∧ ((SqL K H p ys ∧ ∀ l, H l = none → Q (.ref l) (upd H l (.tup ys))) ∨ (SqT K H p ys ∧ Q (.ref p) H))
theorem call_tupR {X : Cx} : CallR X (.type "tuple") (C1 (rTupR X.K)) := by
  intro pins s σ H xs us Q I r h
  obtain ⟨x, rfl, p, ys, rfl, q⟩ := h
  exact call_tuple_of pins s σ H _ us Q I r ⟨p, ys, rfl, q⟩
theorem pr_tupOf : PR K .tupOf (R1of (rTupR K)) := PR1.of fun A H a x d Q ra e q => by
  cases a with
  | list xs =>
    cases e
    obtain ⟨l, vs, rfl, h, rs⟩ := ra.list
    exact ⟨l, vs, rfl, .inl ⟨.inl (.inl h), fun p hp => q _ _ (post_new hp (.tup rs))⟩⟩
  | tuple xs =>
    cases e
    obtain ⟨l, vs, rfl, h, rs⟩ := ra.tuple.tuple
    exact ⟨l, vs, rfl, .inr ⟨h, q _ _ (post_old ra.tuple)⟩⟩
  | _ => cases e
def rLstR (K : PySem.W.Frag) : V → Hp → VK → Prop := fun x H Q => ∃ p ys, x = .ref p ∧ (SqL K H p ys ∨ SqT K H p ys) ∧ ∀ l, H l = none → Q (.ref l) (upd H l (.lst ys))
theorem call_lstR {X : Cx} : CallR X (.type "list") (C1 (rLstR X.K)) := by
  intro pins s σ H xs us Q I r h
  obtain ⟨x, rfl, p, ys, rfl, q⟩ := h
  exact call_list_of pins s σ H _ us Q I r ⟨p, ys, rfl, q⟩
theorem pr_lstOf : PR K .lstOf (R1of (rLstR K)) := PR1.of fun A H a x d Q ra e q => by
  cases a with
  | list xs =>
    cases e
    obtain ⟨l, vs, rfl, h, rs⟩ := ra.list
    exact ⟨l, vs, rfl, .inl (.inl (.inl h)), fun p hp => q _ _ (post_new hp (.lst rs))⟩
  | tuple xs =>
    cases e
    obtain ⟨l, vs, rfl, h, rs⟩ := ra.tuple.tuple
    exact ⟨l, vs, rfl, .inr h, fun p hp => q _ _ (post_new hp (.lst rs))⟩
  | _ => cases e

/-! ### x[i] -/
def rIxR (K : PySem.W.Frag) : R2 := fun x y H Q => rIxL K x y H Q ∨ rIxT K x y H Q ∨ ∃ a v, x = .ref a ∧ DGetR K H a y (some v) ∧ Q v H
theorem DGetR.typeIs {X : Cx} {pins : List (Addr × Obj)} {σ : St} {s : Shared} {a : Addr} {y : V} {r : Option V} (I : Inv X pins σ H s) (g : DGetR X.K H a y r) : s.TypeIs (.ref a) "dict" := by
  rcases g with g | ⟨kvs, k, b, e, ey, sq, l⟩
  · exact dict_typeIs I g
  · obtain ⟨_, _, xs, _, dd⟩ := dt_rd I.hok (.inl e)
    exact dd.typeIs
theorem ix_dictR {X : Cx} (hu : X.A.units + 1 < cLine) : IxR X (fun x y H Q => ∃ a v, x = .ref a ∧ DGetR X.K H a y (some v) ∧ Q v H) := by
  intro value slice pins s σ H x y v u Q I rx ry h hs
  obtain ⟨a, w, rfl, g, q⟩ := h
  cases rx
  have hT := g.typeIs I
  have h₂ : wpAny (model X.prog X.w) X.A (getItem (.ref a) u) (EP X pins σ Q) X.xe s := dR_getItem hu I g ry fun w' s3 I3 rw' => ⟨w, H, I3, rw', q⟩
  unfold subscriptTail
  refine wpAny_bind ?_
  rw [getitemInPython_of_ne hT.not_modules]
  refine wpAny_bind (wpAny_specialOf hT PySem.F.slot_dict_getitem.lookup ?_)
  have fin : wpAny (model X.prog X.w) X.A (subscripted slice false (.ref a) u) (fun r s₃ => wpAny (model X.prog X.w) X.A (letTemporaryGo value (.ref a) r >>= fun _ => pure r) (EP X pins σ Q) X.xe s₃) X.xe s := by
    rw [hs]
    exact wpAny_operating (wpAny_mono h₂ (fun r s₃ h₃ => wpAny_bind (wpAny_letTemporaryGo (wpAny_pure h₃))) fun _ _ x => x)
  first
    | exact wpAny_pure (wpAny_bind fin)
    | exact wpAny_bind (wpAny_pure (wpAny_bind fin))
    | exact wpAny_bind fin
theorem ix_all {X : Cx} (hu : X.A.units + 1 < cLine) : IxR X (rIxR X.K) := IxR.or ix_list (IxR.or ix_tup (ix_dictR hu))
theorem atI_map {ds : List AV} {vs : List V} {i : Int} {d : AV} (rs : RVs K A H ds vs) (e : L2.atI ds i = some d) : ∃ v, L2.atI vs i = some v ∧ RV K A H d v := by
  unfold L2.atI at e ⊢
  rw [rs.length] at e
  cases q : L2.ixN vs.length i with
  | none => rw [q] at e; cases e
  | some j => rw [q] at e; exact rs.get e
theorem pr_ix : PR K .ix (R2of (rIxR K)) := PR2.of fun A H a b x y d Q ra rb e q => by
  change ixS a b = some d at e
  unfold ixS at e
  split at e
  · rename_i xs i
    obtain ⟨l, vs, rfl, h, rs⟩ := ra.list
    obtain ⟨v, hv, rv⟩ := atI_map rs e
    exact .inl ⟨l, vs, i, v, rfl, rb.int, .inl (.inl h), hv, q _ _ (post_old rv)⟩
  · rename_i xs i
    obtain ⟨l, vs, rfl, h, rs⟩ := ra.tuple.tuple
    obtain ⟨v, hv, rv⟩ := atI_map rs e
    exact .inr (.inl ⟨l, vs, i, v, rfl, rb.int, h, hv, q _ _ (post_old rv)⟩)
  · rename_i kv t kvs
    split at e
    · rename_i hk
      have hkv : kv = .none := by
        cases ra with
        | val r => cases r <;> rfl
        | dK _ _ => rfl
        | dT _ _ => rfl
      subst hkv
      obtain ⟨l, rfl, ⟨h1, _⟩ | ⟨d', u, h1, g, rv⟩⟩ := dict_look ra rb hk
      · rw [h1] at e; cases e
      · rw [h1] at e; cases e
        exact .inr (.inr ⟨l, u, rfl, g, q _ _ (post_old rv)⟩)
    · cases e
  · cases e
end
end G
namespace G
open PySem PySem.Spec PyProof.Rows L2
section
variable {P : Program} {w : World} {A : Around} {E : Value → Shared → Prop} {s : Shared}
/-! set(xs) of a list of ints: the walk of set(t) of a tuple, turned to lists -/
set_option maxRecDepth 100000 in
set_option maxHeartbeats 3200000 in
theorem call_set_lstI {l : Addr} {items : Array Value} (ns : List Int) {Q : Value → Shared → Prop} (hh : A.handled = none) (hl : s.heap.IsList l items) (hit : IntsAre items.toList ns) (hb : ns.length + 1 < scanBound)
    (h : ∀ (h' : Heap) (tk c : Nat), SetR w h' s.heap.objs.size (fun j => decide (j ∈ ns)) c → c ≤ ns.length → (∀ b o, s.heap.get? b = some o → h'.get? b = some o) → Q (.ref s.heap.objs.size) { s with heap := h', toks := tk }) :
    wpAny (model P w) A (call (.type "set") [.ref l]) Q E s := by
  have hisz : items.size = ns.length := by
    have q := IntsAre.length hit
    rw [Array.length_toList] at q
    exact q
  obtain ⟨c, tl, hmro⟩ := F.called_set.mro
  have hmade := F.called_set.made
  have hsub := F.called_set.sub
  refine wpAny_call (codeAny_of_tree ?_)
  show wpAny _ _ (callAny (.type "set") _) _ _ _
  refine wpAny_pure ⟨Code.quiet_builtin _ (by decide +kernel), codeAny_builtin F.entry_type_call ?_⟩
  rw [Around.under_plain (weight_type_call_type "set" [.ref l] []) rfl]
  have h1 := F.called_set.notType
  have h2 := F.called_set.canCreate
  have hct := F.typeCall_set_1 (.ref l)
  repeat (any_goals (first | assumption | wp_step))

  refine codeAny_mono (code_set_led1 (.ref l) (E := E) (Q₁ := fun obj s₁ => obj = .ref s.heap.objs.size ∧ s₁ = { s with heap := s.heap.push { cls := .type "set", dict := none, data := .set #[] 0 (.fresh 0 0 (!w.params.followText "set-order")) } }) ⟨rfl, rfl⟩) fun r s₁ hr => ?_
  cases r with
  | error e => exact hr
  | ok fl =>
    cases fl with
    | ret obj =>
      obtain ⟨rfl, rfl⟩ := hr
      have hS : (s.heap.push { cls := .type "set", dict := none, data := .set #[] 0 (.fresh 0 0 (!w.params.followText "set-order")) }).get? s.heap.objs.size = some { cls := .type "set", dict := none, data := .set #[] 0 (.fresh 0 0 (!w.params.followText "set-order")) } := Heap.get?_push_size _ rfl
      have hT : Shared.TypeIs { s with heap := s.heap.push { cls := .type "set", dict := none, data := .set #[] 0 (.fresh 0 0 (!w.params.followText "set-order")) } } (.ref s.heap.objs.size) "set" := ⟨_, hS, rfl⟩
      have hli := F.called_set.init.lookup
      have hbi := F.called_set.init.bind (.ref s.heap.objs.size)
      repeat (any_goals (first | assumption | wp_step))

      refine codeAny_mono (codeAny_call_builtin (R := wants (fun r s₂ => r = .none ∧ ∃ h' tk c, s₂ = { s with heap := h', toks := tk } ∧ SetR w h' s.heap.objs.size (fun j => decide (j ∈ ns)) c ∧ c ≤ ns.length ∧
          (∀ b o, s.heap.get? b = some o → h'.get? b = some o)) E) F.called_set.init.plain F.entry_set_init (check_set_init_1 hT ?_)) fun r₂ s₂ hr₂ => ?_
      · obtain ⟨ol, hol, hcl, nl, hdl⟩ := hl
        obtain ⟨ocls, odict, odata, oslots⟩ := ol
        simp only at hcl hdl
        subst hcl; subst hdl
        have hol' : (s.heap.push { cls := .type "set", dict := none, data := .set #[] 0 (.fresh 0 0 (!w.params.followText "set-order")) }).get? l = some { cls := .type "list", dict := odict, data := .seq items nl, slots := oslots } := Heap.get?_push_of_some _ hol
        have hsls := F.sub_list_set
        have hslf := F.sub_list_frozenset
        have hne : (Value.type "list" == Value.type "dict") = false := by decide
        have hl1 : (s.heap.push { cls := .type "set", dict := none, data := .set #[] 0 (.fresh 0 0 (!w.params.followText "set-order")) }).IsList l items := ⟨_, hol', rfl, nl, rfl⟩
        unfold Builtin.«set.__init__» noKeywords Builtin.Frozenset.updateFrom
        generalize hPI : pyIter = PI
        wp_walk
        subst hPI

        refine wpAny_pyIter_list hl1 ?_
        refine wpAny_bind (wpAny_runValue ?_)
        have hlS : l < s.heap.objs.size := Heap.lt_size hol
        have hh3 : A.in1.in1.in1.handled = none := by simp [hh]
        have hz1 : (s.heap.push { cls := .type "set", dict := none, data := .set #[] 0 (.fresh 0 0 (!w.params.followText "set-order")) }).objs.size = s.heap.objs.size + 1 := Heap.size_push ..
        have hneI : l ≠ (s.heap.push { cls := .type "set", dict := none, data := .set #[] 0 (.fresh 0 0 (!w.params.followText "set-order")) }).objs.size := by
          rw [Heap.size_push]; exact Nat.ne_of_lt (Nat.lt_succ_of_lt hlS)
        have hSf : s.heap.objs.size ∉ [(s.heap.push { cls := .type "set", dict := none, data := .set #[] 0 (.fresh 0 0 (!w.params.followText "set-order")) }).objs.size, l] := by
          rw [Heap.size_push]; simp only [List.mem_cons, List.mem_singleton, List.not_mem_nil, or_false, not_or]
          exact ⟨Nat.ne_of_lt (Nat.lt_succ_self _), Nat.ne_of_gt hlS⟩
        have hval : ∀ (i : Nat) (v : Value), items[i]? = some v → ∃ k t, ns[i]? = some k ∧ v = .int k t := fun i v hv => by
          have hi : i < ns.length := by rw [← hisz]; exact (Array.getElem?_eq_some_iff.mp hv).1
          obtain ⟨t, e⟩ := PyProof.Rows.IntsAre.int_at hit i v (by rw [Array.getElem?_toList]; exact hv)
          refine ⟨ns[i], t, List.getElem?_eq_getElem hi, ?_⟩
          rw [e, List.getD_eq_getElem?_getD, List.getElem?_eq_getElem hi] <;> rfl
        refine set_update_ints ((Walks.list hh3 _ l hneI items).toS) s.heap.objs.size
          hSf ns hisz hb hval (items.size - 0) 0 _ (by omega) (Nat.zero_le _)
          ⟨⟨_, Heap.get?_push_size _ rfl, rfl, rfl⟩, (hl1.push _)⟩ ?hS0 ?hR
        case hS0 =>
          have hget : ((s.heap.push { cls := .type "set", dict := none, data := .set #[] 0 (.fresh 0 0 (!w.params.followText "set-order")) }).push { cls := .type "list_iterator", data := .fields #[.ref l, .int 0 0] }).get? s.heap.objs.size
              = some { cls := .type "set", dict := none, data := .set #[] 0 (.fresh 0 0 (!w.params.followText "set-order")) } := Heap.get?_push_of_some _ hS
          exact ⟨0, Nat.le_refl 0, setR_new_at hget⟩
        case hR =>
          intro s' c' hm hc' hS'
          obtain ⟨h', g2, d', tk', os'⟩ := s'
          have eg : g2 = s.gens := hm.gens
          have ed : d' = s.drawn := hm.drawn
          have eo : os' = s.os := hm.os
          subst eg; subst ed; subst eo
          show wpAny _ _ _ _ _ _
          refine wpAny_pure ?_
          show wpAny _ _ (ret Value.none) _ _ _
          rw [hisz] at hc'
          refine wpAny_pure ⟨rfl, h', tk', c', rfl, hS', hc', fun b o e => ?_⟩
          have hb0 : b < s.heap.objs.size := Heap.lt_size e
          have hb1 : b ≠ s.heap.objs.size := Nat.ne_of_lt hb0
          have hb2 : b ≠ (s.heap.push { cls := .type "set", dict := none, data := .set #[] 0 (.fresh 0 0 (!w.params.followText "set-order")) }).objs.size := by
            rw [Heap.size_push]; exact Nat.ne_of_lt (Nat.lt_succ_of_lt hb0)
          exact hm.heap b o (by simp only [List.mem_cons, List.mem_singleton, List.not_mem_nil, or_false, not_or]; exact ⟨hb1, hb2⟩) (Heap.get?_push_of_some _ (Heap.get?_push_of_some _ e))

      · cases r₂ with
        | error e => exact hr₂
        | ok fl₂ =>
          cases fl₂ with
          | ret r =>
            obtain ⟨rfl, h', tk, c', rfl, hS', hc', hk'⟩ := hr₂
            repeat (any_goals (first | assumption | wp_step))
            exact h _ _ _ hS' hc' hk'
          | _ => exact hr₂.elim
    | _ => exact hr.elim
end
end G
namespace G
open PySem PySem.Spec PyProof.Rows L2

/-! ### isort is mergeSort -/
section
open PySem.W
variable {le : AV → AV → Bool}
theorem insS_mem {x z : AV} : ∀ {l : List AV}, z ∈ insS le x l → z = x ∨ z ∈ l
  | [], h => by simp [insS] at h; exact .inl h
  | y :: r, h => by
    unfold insS at h
    split at h
    · rcases List.mem_cons.mp h with h | h
      · exact .inl h
      · exact .inr h
    · rcases List.mem_cons.mp h with h | h
      · exact .inr (h ▸ List.mem_cons_self)
      · rcases insS_mem h with h | h
        · exact .inl h
        · exact .inr (List.mem_cons_of_mem _ h)
theorem insS_sorted (T : TotalLe le) {x : AV} : ∀ {l : List AV}, l.Pairwise (fun a b => le a b = true) → (insS le x l).Pairwise (fun a b => le a b = true)
  | [], _ => by simp [insS]
  | y :: r, h => by
    obtain ⟨h1, h2⟩ := List.pairwise_cons.mp h
    unfold insS
    split
    · rename_i e
      refine List.pairwise_cons.mpr ⟨fun z hz => ?_, h⟩
      rcases List.mem_cons.mp hz with hz | hz
      · exact hz ▸ e
      · exact T.trans _ _ _ e (h1 z hz)
    · rename_i e
      refine List.pairwise_cons.mpr ⟨fun z hz => ?_, insS_sorted T h2⟩
      rcases insS_mem hz with hz | hz
      · subst hz
        exact (T.total y z).resolve_right e
      · exact h1 z hz
theorem insS_filter (T : TotalLe le) {x c : AV} : ∀ (l : List AV), (insS le x l).filter (sameRank le c) = (x :: l).filter (sameRank le c)
  | [] => rfl
  | y :: r => by
    unfold insS
    split
    · rfl
    · rename_i e
      have ih := insS_filter T (x := x) (c := c) r
      rw [List.filter_cons, ih, List.filter_cons, List.filter_cons, List.filter_cons]
      by_cases h1 : sameRank le c x = true
      · by_cases h2 : sameRank le c y = true
        · unfold sameRank at h1 h2
          rw [Bool.and_eq_true] at h1 h2
          exact absurd (T.trans _ _ _ h1.2 h2.1) e
        · simp [h1, h2]
      · simp [h1]
end
theorem isort_sorted {le : AV → AV → Bool} (T : PySem.W.TotalLe le) : ∀ l : List AV, (isort le l).Pairwise (fun a b => le a b = true)
  | [] => List.Pairwise.nil
  | x :: r => insS_sorted T (isort_sorted T r)
theorem isort_filter {le : AV → AV → Bool} (T : PySem.W.TotalLe le) (c : AV) : ∀ l : List AV, (isort le l).filter (PySem.W.sameRank le c) = l.filter (PySem.W.sameRank le c)
  | [] => rfl
  | x :: r => by
    show (insS le x (isort le r)).filter _ = _
    rw [insS_filter T, List.filter_cons, List.filter_cons, isort_filter T c r]
theorem avLe_is (x y : AV) : avLe x y = PySem.W.dataLe false id x y := by
  have e : PySem.W.dataLe false id x y = !PySem.W.dataLt y x := rfl
  rw [e]
  unfold avLe
  split
  · rename_i i j
    rw [PySem.W.dataLt_int]
    by_cases h : i ≤ j
    · simp [h]
    · have : j < i := by omega
      simp [h, this]
  · rfl
theorem isort_is (l : List AV) : isort avLe l = l.mergeSort (PySem.W.dataLe false id) := by
  have T : PySem.W.TotalLe (PySem.W.dataLe false (id : AV → AV)) := PySem.W.sortLe_total _ _ _
  rw [show avLe = PySem.W.dataLe false id from funext fun x => funext fun y => avLe_is x y]
  exact PySem.W.sort_unique T (isort_sorted T l) fun c => isort_filter T c l

mutual
theorem alike_of : ∀ (x y z : AV), sameShape x y = true → sameShape x z = true → PySem.W.alike y z = true
  | .int _, y, z, h1, h2 => by cases y <;> cases z <;> simp [sameShape] at h1 h2 <;> simp [PySem.W.alike]
  | .bool _, y, z, h1, h2 => by cases y <;> cases z <;> simp [sameShape] at h1 h2 <;> simp [PySem.W.alike]
  | .str _, y, z, h1, h2 => by cases y <;> cases z <;> simp [sameShape] at h1 h2 <;> simp [PySem.W.alike]
  | .none, y, z, h1, h2 => by cases y <;> simp [sameShape] at h1
  | .list _, y, z, h1, h2 => by cases y <;> simp [sameShape] at h1
  | .dict _, y, z, h1, h2 => by cases y <;> simp [sameShape] at h1
  | .tuple xs, y, z, h1, h2 => by
    cases y <;> cases z <;> simp [sameShape] at h1 h2
    simp only [PySem.W.alike]
    exact alikes_of xs _ _ h1 h2
theorem alikes_of : ∀ (x y z : List AV), sameShapes x y = true → sameShapes x z = true → PySem.W.alikeAll y z = true
  | [], y, z, h1, h2 => by cases y <;> cases z <;> simp [sameShapes] at h1 h2 <;> simp [PySem.W.alikeAll]
  | x :: xs, y, z, h1, h2 => by
    cases y <;> cases z <;> simp [sameShapes] at h1 h2
    simp only [PySem.W.alikeAll, Bool.and_eq_true]
    exact ⟨alike_of x _ _ h1.1 h2.1, alikes_of xs _ _ h1.2 h2.2⟩
end
theorem allAlike_iff {xs : List AV} (h : allAlike xs = true) : PySem.W.AllAlike xs := by
  unfold allAlike at h
  rw [Bool.or_eq_true] at h
  rcases h with h | h
  · cases xs with
    | nil => intro d hd; cases hd
    | cons x r =>
      have h' := List.all_eq_true.mp h
      exact fun d hd d' hd' => alike_of x d d' (h' d hd) (h' d' hd')
  · exact fun d hd d' hd' => List.all_eq_true.mp (List.all_eq_true.mp h d hd) d' hd'
theorem sortable_iff {xs : List AV} (h : sortable xs = true) : PySem.W.Sortable xs := by
  unfold sortable at h
  rw [Bool.or_eq_true] at h
  rcases h with h | h
  · refine .inl fun d hd => ?_
    have := List.all_eq_true.mp h d hd
    cases d with
    | tuple ys => cases ys with
      | nil => cases this
      | cons y r => exact ⟨y, r, rfl⟩
    | _ => cases this
  · refine .inr fun d hd => ?_
    have := List.all_eq_true.mp h d hd
    cases d <;> first | (cases this; done) | (refine ⟨?_, ?_⟩ <;> simp)

section
variable {K : PySem.W.Frag} {A A' : Addr → Prop} {H H' : Hp}
theorem shallow_iff {xs : List AV} (h : shallow xs = true) : ∀ d ∈ xs, d.canLay0 = true ∧ d.depth ≤ 64 := fun d hd => by
  have := List.all_eq_true.mp h d hd
  cases d with
  | int i => exact ⟨rfl, by simp [PyData.depth]⟩
  | _ => exact ⟨SeqAt.canLay_of_shaped this, SeqAt.depth_of_shaped this⟩
theorem canLayAll_of : ∀ {xs : List AV}, (∀ d ∈ xs, d.canLay0 = true) → PyData.canLayAll0 xs = true
  | [], _ => rfl
  | x :: r, h => by
    simp only [PyData.canLayAll0, Bool.and_eq_true]
    exact ⟨h x List.mem_cons_self, canLayAll_of fun d hd => h d (List.mem_cons_of_mem _ hd)⟩
theorem each_zip {X : Cx} {pins : List (Addr × Obj)} {σ : St} {s : Shared} (I : Inv X pins σ H s) : ∀ {ds : List AV} {vs : List V} {us : List Value}, DpAll X.K H vs ds → Vals vs us →
    PySem.W.EachIs (fun v (b : AV × V) => RelV b.2 v) us (ds.zip vs) ∧ PySem.W.EachIs (fun v (b : AV × V) => ∃ as, Reads s.heap v b.1 as) us (ds.zip vs)
  | [], _, _, h, r => by
    cases h; cases r; exact ⟨.nil, .nil⟩
  | d :: ds, _, _, h, r => by
    cases h with
    | cons h1 h2 =>
      cases r with
      | cons r1 r2 =>
        obtain ⟨e1, e2⟩ := each_zip I h2 r2
        exact ⟨.cons r1 e1, .cons (Dp.reads I _ _ _ h1 r1) e2⟩
theorem vals_each : ∀ {us : List Value} {bs : List (AV × V)}, PySem.W.EachIs (fun v (b : AV × V) => RelV b.2 v) us bs → Vals (bs.map (·.2)) us
  | _, _, .nil => .nil
  | _, _, .cons r t => .cons r (vals_each t)
theorem rvs_of : ∀ {bs : List (AV × V)}, (∀ b ∈ bs, RV K A H b.1 b.2) → RVs K A H (bs.map (·.1)) (bs.map (·.2))
  | [], _ => .nil
  | b :: r, h => .cons (h b List.mem_cons_self) (rvs_of fun c hc => h c (List.mem_cons_of_mem _ hc))
theorem rvs_zip : ∀ {ds : List AV} {vs : List V}, RVs K A H ds vs → (∀ b ∈ ds.zip vs, RV K A H b.1 b.2) ∧ (ds.zip vs).map (·.1) = ds ∧ (ds.zip vs).map (·.2) = vs
  | [], _, h => by cases h; exact ⟨fun b hb => by simp at hb, rfl, rfl⟩
  | d :: ds, _, h => by
    cases h with
    | cons a t =>
      obtain ⟨h1, h2, h3⟩ := rvs_zip t
      refine ⟨fun b hb => ?_, by simp [h2], by simp [h3]⟩
      rcases List.mem_cons.mp (show b ∈ (d, _) :: ds.zip _ from hb) with hb | hb
      · subst hb; exact a
      · exact h1 b hb
/-- sorted(xs) -/
def rSortR (K : PySem.W.Frag) : V → Hp → VK → Prop := fun x H Q => ∃ (A : Addr → Prop) (a : Addr) (ds es : List AV) (vs : List V), x = .ref a ∧ SqL K H a vs ∧ RVs K A H ds vs ∧ sortedS ds = some es ∧
  ∀ ws p, RVs K A H es ws → H p = none → Q (.ref p) (upd H p (.lst ws))
theorem call_sortR {X : Cx} (hu : X.A.units + 80 < cLine) : CallR X (.builtin "sorted") (C1 (rSortR X.K)) := by
  intro pins s σ H xs us Q I r h
  obtain ⟨x, rfl, A, a, ds, es, vs, rfl, hs, rs, hso, q⟩ := h
  unfold sortedS at hso
  split at hso
  · rename_i hc
    cases hso
    simp only [Bool.and_eq_true] at hc
    obtain ⟨⟨c1, c2⟩, c3⟩ := hc
    obtain ⟨its, rv, hl, hz⟩ := I.list hs
    rw [Vals.ref1 r]
    have sh := shallow_iff c3
    obtain ⟨e1, e2⟩ := each_zip I (rs.dp (canLayAll_of fun d hd => (sh d hd).1)) rv
    obtain ⟨z1, z2, z3⟩ := rvs_zip rs
    have zl : (ds.zip vs).length = vs.length := by
      have := congrArg List.length z3
      rw [List.length_map] at this
      exact this
    refine PySem.W.sorted_data (enc := fun b : AV × V => b.1) hl.isList e1 e2 (by rw [z2]; exact allAlike_iff c1) (by rw [z2]; exact sortable_iff c2) (by rw [zl]; exact hz) (fun b hb => ?_) fun out h1 h2 => ?_
    · have : b.1 ∈ ds := by rw [← z2]; exact List.mem_map.mpr ⟨b, hb, rfl⟩
      have := (sh _ this).2
      omega
    · obtain ⟨ep, he'⟩ := PyProof.Rows.sortedAll_at s.heap its (List.toArray out)
      have v2 := vals_each h2
      have me : ((ds.zip vs).mergeSort (PySem.W.dataLe false fun b : AV × V => b.1)).map (·.1) = isort avLe ds := by
        rw [isort_is]
        exact (PySem.W.sort_maps (r := PySem.W.dataLe false fun b : AV × V => b.1) (s := PySem.W.dataLe false id) (fun b : AV × V => b.1) (l := ds.zip vs) fun a _ b _ => rfl).trans (by rw [z2])
      have hlen : (((ds.zip vs).mergeSort (PySem.W.dataLe false fun b : AV × V => b.1)).map (·.2)).length ≤ sizeLine := by
        rw [List.length_map, List.length_mergeSort, zl]; exact hz
      refine ⟨.ref _, upd H (s.heap.objs.size + 1) (.lst (((ds.zip vs).mergeSort (PySem.W.dataLe false fun b : AV × V => b.1)).map (·.2))), I.laid (t' := s.toks) (fun _ _ => PyProof.Rows.sortedAll_old) (Nat.le_succ _) ⟨hlen, out, ep, v2, he'⟩, rfl, q _ _ ?_ (I.hok.fresh (Nat.le_succ _))⟩
      rw [← me]
      exact rvs_of fun b hb => z1 b ((List.mergeSort_perm _ _).mem_iff.mp hb)
  · cases hso
theorem pr_sorted : PR K .sorted (R1of (rSortR K)) := PR1.of fun A H a x d Q ra e q => by
  cases a with
  | list xs =>
    change (sortedS xs).map PyData.list = some d at e
    cases e1 : sortedS xs with
    | none => rw [e1] at e; cases e
    | some es =>
      rw [e1] at e; cases e
      obtain ⟨l, vs, rfl, h, rs⟩ := ra.list
      exact ⟨A, l, xs, es, vs, rfl, .inl (.inl h), rs, e1, fun ws p rw hp => q _ _ (post_new hp (.lst rw))⟩
  | _ => cases e
end
end G
namespace G
open PySem PySem.Spec PyProof.Rows L2

/-! ### sorted(set(xs)) -/
section
variable {α : Type} {f : α → Int}
theorem insK_mem {x z : α} : ∀ {l : List α}, z ∈ insK f x l → z = x ∨ z ∈ l
  | [], h => by simp [insK] at h; exact .inl h
  | y :: r, h => by
    unfold insK at h
    split at h
    · rcases List.mem_cons.mp h with h | h
      · exact .inl h
      · exact .inr h
    · split at h
      · rcases List.mem_cons.mp h with h | h
        · exact .inr (h ▸ List.mem_cons_self)
        · rcases insK_mem h with h | h
          · exact .inl h
          · exact .inr (List.mem_cons_of_mem _ h)
      · exact .inr h
theorem insK_old {x z : α} : ∀ {l : List α}, z ∈ l → z ∈ insK f x l
  | y :: r, h => by
    unfold insK
    split
    · exact List.mem_cons_of_mem _ h
    · split
      · rcases List.mem_cons.mp h with h | h
        · exact h ▸ List.mem_cons_self
        · exact List.mem_cons_of_mem _ (insK_old h)
      · exact h
theorem insK_new {x : α} : ∀ {l : List α}, (∀ y ∈ l, f y = f x → y = x) → x ∈ insK f x l
  | [], _ => by simp [insK]
  | y :: r, h => by
    unfold insK
    split
    · exact List.mem_cons_self
    · split
      · exact List.mem_cons_of_mem _ (insK_new fun z hz => h z (List.mem_cons_of_mem _ hz))
      · have := h y List.mem_cons_self (by omega)
        exact this ▸ List.mem_cons_self
theorem insK_sorted {x : α} : ∀ {l : List α}, l.Pairwise (fun a b => f a < f b) → (insK f x l).Pairwise (fun a b => f a < f b)
  | [], _ => by simp [insK]
  | y :: r, h => by
    obtain ⟨h1, h2⟩ := List.pairwise_cons.mp h
    unfold insK
    split
    · rename_i e
      refine List.pairwise_cons.mpr ⟨fun z hz => ?_, h⟩
      rcases List.mem_cons.mp hz with hz | hz
      · exact hz ▸ e
      · have := h1 z hz; omega
    · split
      · rename_i e e2
        refine List.pairwise_cons.mpr ⟨fun z hz => ?_, insK_sorted h2⟩
        rcases insK_mem hz with hz | hz
        · subst hz; exact e2
        · exact h1 z hz
      · exact h
theorem sortK_sorted : ∀ (l : List α), (sortK f l).Pairwise (fun a b => f a < f b)
  | [] => List.Pairwise.nil
  | x :: r => insK_sorted (sortK_sorted r)
theorem sortK_sub : ∀ {l : List α} {z : α}, z ∈ sortK f l → z ∈ l
  | x :: r, z, h => by
    rcases insK_mem (show z ∈ insK f x (sortK f r) from h) with h | h
    · exact h ▸ List.mem_cons_self
    · exact List.mem_cons_of_mem _ (sortK_sub h)
theorem sortK_all : ∀ {l : List α} {z : α}, (∀ a ∈ l, ∀ b ∈ l, f a = f b → a = b) → z ∈ l → z ∈ sortK f l
  | x :: r, z, hi, h => by
    show z ∈ insK f x (sortK f r)
    rcases List.mem_cons.mp h with h | h
    · subst h
      exact insK_new fun y hy e => hi y (List.mem_cons_of_mem _ (sortK_sub hy)) z List.mem_cons_self e
    · exact insK_old (sortK_all (fun a ha b hb => hi a (List.mem_cons_of_mem _ ha) b (List.mem_cons_of_mem _ hb)) h)
theorem strict_unique : ∀ {l m : List α}, l.Pairwise (fun a b => f a < f b) → m.Pairwise (fun a b => f a < f b) → (∀ z, z ∈ l ↔ z ∈ m) → l = m
  | [], [], _, _, _ => rfl
  | [], y :: m, _, _, h => by have := (h y).mpr List.mem_cons_self; cases this
  | x :: l, [], _, _, h => by have := (h x).mp List.mem_cons_self; cases this
  | x :: l, y :: m, hl, hm, h => by
    obtain ⟨a1, a2⟩ := List.pairwise_cons.mp hl
    obtain ⟨b1, b2⟩ := List.pairwise_cons.mp hm
    have e : x = y := by
      rcases List.mem_cons.mp ((h x).mp List.mem_cons_self) with h1 | h1
      · exact h1
      · rcases List.mem_cons.mp ((h y).mpr List.mem_cons_self) with h2 | h2
        · exact h2.symm
        · have := a1 y h2; have := b1 x h1; omega
    subst e
    rw [strict_unique a2 b2 fun z => ?_]
    constructor
    · intro hz
      rcases List.mem_cons.mp ((h z).mp (List.mem_cons_of_mem _ hz)) with h1 | h1
      · subst h1; have := a1 z hz; omega
      · exact h1
    · intro hz
      rcases List.mem_cons.mp ((h z).mpr (List.mem_cons_of_mem _ hz)) with h1 | h1
      · subst h1; have := b1 z hz; omega
      · exact h1
end
theorem codeI_is : ∀ ns : List Int, codeI ns = TS.code (2 ^ 64) ns
  | [] => rfl
  | d :: r => by
    show d * (2 ^ 64) ^ r.length + codeI r = d * (2 ^ 64) ^ r.length + TS.code (2 ^ 64) r
    rw [codeI_is r]
theorem code_inj {B : Int} : ∀ {ns ms : List Int}, ns.length = ms.length → TS.Bd B ns → TS.Bd B ms → TS.code B ns = TS.code B ms → ns = ms
  | [], [], _, _, _, _ => rfl
  | [], _ :: _, h, _, _, _ => by simp at h
  | _ :: _, [], h, _, _, _ => by simp at h
  | d :: r, e :: q, h, h1, h2, hc => by
    have hl : r.length = q.length := by simpa using h
    by_cases z : d < e
    · have := TS.code_lt hl h1.tail h2.tail z; omega
    · by_cases z2 : e < d
      · have := TS.code_lt hl.symm h2.tail h1.tail z2; omega
      · have : d = e := by omega
        subst this
        have hc' : TS.code B r = TS.code B q := by
          have e1 : TS.code B (d :: r) = d * B ^ r.length + TS.code B r := rfl
          have e2 : TS.code B (d :: q) = d * B ^ q.length + TS.code B q := rfl
          rw [e1, e2, hl] at hc
          omega
        rw [code_inj hl h1.tail h2.tail hc']

section
variable {K : PySem.W.Frag} {A A' : Addr → Prop} {H H' : Hp}
theorem tupI_iff {d : Nat} {x : AV} {ns : List Int} (h : tupI d x = some ns) : ∃ xs, x = .tuple xs ∧ intsL xs = some ns ∧ ns.length = d ∧ TS.Bd (2 ^ 64) ns := by
  unfold tupI at h
  split at h
  · rename_i xs
    cases e : intsL xs with
    | none => rw [e] at h; cases h
    | some ms =>
      rw [e] at h
      simp only [Option.bind_some] at h
      split at h
      · rename_i hc
        cases h
        refine ⟨xs, rfl, e, hc.1, fun m hm => ?_⟩
        have := List.all_eq_true.mp hc.2 m hm
        simp only [Bool.and_eq_true, decide_eq_true_eq] at this
        exact this
      · cases h
  · cases h
theorem tupsI_iff {d : Nat} : ∀ {ds : List AV} {vs : List V} {kss : List (List Int)}, RVs K A H ds vs → tupsI d ds = some kss →
    ∃ ks : List (Addr × List Int), vs = ks.map (fun p => V.ref p.1) ∧ ks.map (·.2) = kss ∧ ∀ p ∈ ks, SqT K H p.1 (p.2.map V.int) ∧ p.2.length = d ∧ TS.Bd (2 ^ 64) p.2 ∧ RV K A H (.tuple (p.2.map .int)) (V.ref p.1)
  | [], _, _, h, e => by cases h; cases e; exact ⟨[], rfl, rfl, fun p hp => by cases hp⟩
  | x :: ds, _, kss, h, e => by
    cases h with
    | cons h1 h2 =>
      simp only [tupsI] at e
      cases e1 : tupI d x with
      | none => rw [e1] at e; cases e
      | some ns =>
        cases e2 : tupsI d ds with
        | none => rw [e1, e2] at e; cases e
        | some r =>
          rw [e1, e2] at e; cases e
          obtain ⟨xs, rfl, e3, e4, e5⟩ := tupI_iff e1
          obtain ⟨ks, hk1, hk2, hk3⟩ := tupsI_iff h2 e2
          obtain ⟨a, us, rfl, sq, rs⟩ := h1.tuple
          obtain ⟨f1, f2⟩ := rs.ints e3
          subst f1 f2
          refine ⟨(a, ns) :: ks, by rw [hk1]; rfl, by rw [List.map_cons, hk2], fun p hp => ?_⟩
          rcases List.mem_cons.mp hp with hp | hp
          · subst hp; exact ⟨sq, e4, e5, h1⟩
          · exact hk3 p hp
def rSsetR (K : PySem.W.Frag) : V → Hp → VK → Prop := fun x H Q => ∃ (A : Addr → Prop) (a : Addr) (ds : List AV) (d : AV) (vs : List V), x = .ref a ∧ SqL K H a vs ∧ RVs K A H ds vs ∧ ssetS ds = some d ∧
  ∀ v H', PostP K A H true d v H' → Q v H'
theorem rvs_tups : ∀ {L : List (Addr × List Int)}, (∀ p ∈ L, RV K A H (.tuple (p.2.map .int)) (V.ref p.1)) → RVs K A H (L.map fun p => .tuple (p.2.map .int)) (L.map fun p => V.ref p.1)
  | [], _ => .nil
  | p :: r, h => .cons (h p List.mem_cons_self) (rvs_tups fun q hq => h q (List.mem_cons_of_mem _ hq))
theorem strict_of_le {f : List Int → Int} {P : List Int → Prop} (hi : ∀ a b, P a → P b → f a = f b → a = b) : ∀ {l : List (List Int)}, l.Pairwise (fun a b => f a ≤ f b) → l.Nodup → (∀ a ∈ l, P a) → l.Pairwise (fun a b => f a < f b)
  | [], _, _, _ => List.Pairwise.nil
  | x :: l, h, d, hp => by
    obtain ⟨h1, h2⟩ := List.pairwise_cons.mp h
    obtain ⟨d1, d2⟩ := List.nodup_cons.mp d
    refine List.pairwise_cons.mpr ⟨fun y hy => ?_, strict_of_le hi h2 d2 fun a ha => hp a (List.mem_cons_of_mem _ ha)⟩
    have a := h1 y hy
    have b : f x ≠ f y := fun z => d1 (hi x y (hp x List.mem_cons_self) (hp y (List.mem_cons_of_mem _ hy)) z ▸ hy)
    omega
theorem int_set_list {X : Cx} {pins : List (Addr × Obj)} {σ : St} {s s' : Shared} {p : Addr} {o : HO} (I : Inv X pins σ H s) (k : ∀ b o, s.heap.get? b = some o → s'.heap.get? b = some o) (g : s'.gens = s.gens) (eo : s'.os = s.os) (hp : s.heap.objs.size ≤ p)
    (ok : ObjOk X.prog X.w (upd H p o) s'.heap p o) : Inv X pins σ (upd H p o) s' ∧ H p = none := by
  have hn : H p = none := I.hok.fresh hp
  have J : Inv X pins σ (upd H p o) { s with heap := s'.heap, gens := s'.gens, drawn := s'.drawn, toks := s'.toks } :=
    I.call (ch := []) (Un.laid k hp hn) (I.hok.laid k hp ok) (by rw [g]; exact I.bare) (fun _ z => nomatch z)
  have e : s' = { s with heap := s'.heap, gens := s'.gens, drawn := s'.drawn, toks := s'.toks } := by
    cases s'
    cases s
    cases eo
    rfl
  rw [e]
  exact ⟨J, hn⟩
theorem pe_sset {X : Cx} {a : Expr} {ta : TE} {p p2 q pos : Pos} (hg : Gl X "sorted") (hm : X.mg "sorted" = none) (hg2 : Gl X "set") (hm2 : X.mg "set" = none) (ha : PE X a ta) (hc : X.calm = true) (hu : X.A.units + 80 < cLine)
    (na : starEach [a] X.env = (false, eval a X.env) :: starEach [] X.env := by rfl) : PE X (.Call (.Name "sorted" p) [.Call (.Name "set" p2) [a] [] q] [] pos) (fun σ H Q => ta σ H fun x H1 => rSsetR X.K x H1 Q) := by
  refine ⟨fun pins s σ H Q I h => ?_⟩
  refine Call_ (ld_blt I hg hm (show bootBuiltins (Str.ofString "sorted") = some (.builtin "sorted") by decide +kernel) ?_)
  refine PyProof.Rows.callWith_builtin1 (PyProof.Rows.args_cons ?_ rfl) rfl rfl
  refine Call_ (ld_blt I hg2 hm2 boot_set ?_)
  refine PyProof.Rows.callWith_type1 (PyProof.Rows.args_cons (thn (ha.run pins s σ H _ I h) fun v s1 ⟨x, H1, I1, r1, q1⟩ => PyProof.Rows.args_nil ?_) na) na rfl
  obtain ⟨A, l, ds, d, vs, rfl, hq, rs, hd, q1⟩ := q1
  cases r1
  obtain ⟨its, r, pl, hz⟩ := I1.list hq
  have hlv := rs.length
  unfold ssetS at hd
  split at hd
  · rename_i h64
    split at hd
    · -- tuples
      rename_i ys r0
      split at hd
      · cases hd
      · rename_i hy
        cases ek : tupsI ys.length (PyData.tuple ys :: r0) with
        | none => rw [ek] at hd; cases hd
        | some kss =>
          rw [ek] at hd; cases hd
          obtain ⟨ks, rfl, hk2, hk3⟩ := tupsI_iff rs ek
          have hkl : ks.length < 64 := by rw [List.length_map] at hlv; omega
          refine call_set_tups (P := X.prog) (w := X.w) ks (I1.ok.hd hc) pl.isList (by simpa using refs_of_vals r) (fun p hp => I1.isT (hk3 p hp).1) hkl (by omega) fun h' tk L es ep t R g k => ?_
          refine PyProof.Rows.args_nil ?_
          have I2 : Inv X pins σ H1 { s1 with heap := h', toks := tk } := I1.kept k
          have sub : ∀ p ∈ L, p ∈ ks := fun p hp => List.mem_of_mem_take (g.sub p hp)
          have all : ∀ p ∈ ks, p.2 ∈ L.map (·.2) := fun p hp => g.all p (by rw [List.take_length]; exact hp)
          refine sorted_setT (d := ys.length) (B := 2 ^ 64) R (I2.ok.hd hc) (by omega) (fun p hp => (hk3 p (sub p hp)).2.imp id And.left) fun s' p out c L' k g o hp hg hout pm pw => ?_
          have hfew : L'.length < 64 := by rw [pm.length_eq]; exact R.few
          have hlen : (L'.map fun q => V.ref q.1).length ≤ sizeLine := by rw [List.length_map, sizeLine_eq]; omega
          have hv : Vals (L'.map fun q => V.ref q.1) out.toList := by rw [hout]; exact vals_of_refs L'
          obtain ⟨J, hn⟩ := int_set_list (o := .lst (L'.map fun q => V.ref q.1)) I2 k g o hp ⟨hlen, out.toList, c, hv, hg⟩
          refine ⟨.ref p, _, J, rfl, q1 _ _ (post_new hn (.lst ?_))⟩
          have hL : ∀ q ∈ L', q ∈ ks := fun q hq => sub q (pm.mem_iff.mp hq)
          have e : L'.map (·.2) = sortK codeI kss := by
            have inj : ∀ a b, (a.length = ys.length ∧ TS.Bd (2 ^ 64) a) → (b.length = ys.length ∧ TS.Bd (2 ^ 64) b) → codeI a = codeI b → a = b := fun a b h1 h2 e => by
              rw [codeI_is, codeI_is] at e
              exact code_inj (h1.1.trans h2.1.symm) h1.2 h2.2 e
            have hP : ∀ a ∈ kss, a.length = ys.length ∧ TS.Bd (2 ^ 64) a := fun a ha => by
              rw [← hk2] at ha
              obtain ⟨p, hp, rfl⟩ := List.mem_map.mp ha
              exact (hk3 p hp).2.imp id And.left
            refine strict_unique (f := codeI) (strict_of_le inj ?_ ((pm.map (·.2)).nodup_iff.mpr R.nd) fun a ha => ?_) (sortK_sorted kss) fun z => ⟨fun hz => ?_, fun hz => ?_⟩
            · rw [List.pairwise_map]
              exact pw.imp fun h => by rw [codeI_is, codeI_is]; exact h
            · obtain ⟨p, hp, rfl⟩ := List.mem_map.mp ha
              exact (hk3 p (hL p hp)).2.imp id And.left
            · obtain ⟨p, hp, rfl⟩ := List.mem_map.mp hz
              exact sortK_all (fun a ha b hb e => inj a b (hP a ha) (hP b hb) e) (by rw [← hk2]; exact List.mem_map.mpr ⟨p, hL p hp, rfl⟩)
            · have hz' := sortK_sub hz
              rw [← hk2] at hz'
              obtain ⟨p, hp, rfl⟩ := List.mem_map.mp hz'
              exact (pm.map (·.2)).mem_iff.mpr (all p hp)
          rw [← e, List.map_map]
          exact rvs_tups fun q hq => (hk3 q (hL q hq)).2.2.2
    · -- ints
      cases en : intsL ds with
      | none => rw [en] at hd; cases hd
      | some ns =>
        rw [en] at hd; cases hd
        obtain ⟨rfl, rfl⟩ := rs.ints en
        have hnl : ns.length < 64 := by rw [List.length_map] at h64; exact h64
        refine call_set_lstI ns (I1.ok.hd hc) pl.isList (by simpa using intsAre_of r) (by unfold scanBound; omega) fun h' tk c R hcn k => ?_
        refine PyProof.Rows.args_nil ?_
        have I2 : Inv X pins σ H1 { s1 with heap := h', toks := tk } := I1.kept k
        refine sorted_set R (I2.ok.hd hc) (by omega) fun s' p out c' ns' k g o hp hg hi pw hm hl => ?_
        have hlen : (ns'.map V.int).length ≤ sizeLine := by rw [List.length_map, sizeLine_eq]; omega
        obtain ⟨J, hn⟩ := int_set_list (o := .lst (ns'.map V.int)) I2 k g o hp ⟨hlen, out.toList, c', vals_of_ints hi, hg⟩
        refine ⟨.ref p, _, J, rfl, q1 _ _ (post_new hn (.lst ?_))⟩
        have e : ns' = sortK id ns := strict_unique (f := id) pw (sortK_sorted ns) fun z => ⟨fun hz => sortK_all (fun a _ b _ e => e) (by simpa using (hm z).mp hz), fun hz => (hm z).mpr (by simpa using sortK_sub hz)⟩
        rw [← e]
        exact RVs.ofInts ns'
  · cases hd
theorem pr_sset : PR K .sset (R1of (rSsetR K)) := PR1.of fun A H a x d Q ra e q => by
  cases a with
  | list xs =>
    obtain ⟨l, vs, rfl, h, rs⟩ := ra.list
    exact ⟨A, l, xs, d, vs, rfl, .inl (.inl h), rs, e, q⟩
  | _ => cases e
end
end G
namespace G
open PySem PySem.Spec PyProof.Rows L2

/-- an argument: an expression, or an own slot that is looked at -/
inductive ArgE where | v (e : E) | p (i : Nat)
def Es.mk : ArgE → Es → Es
  | .v e, r => .cons e r
  | .p i, r => .pk i r
def tArg (K : PySem.W.Frag) (C : Handler) : ArgE → TE
  | .v e => TEr K C e
  | .p i => tVar i
def ArgE.ok (pk : Bool) : ArgE → Bool
  | .v _ => true
  | .p _ => pk

section
variable {K : PySem.W.Frag} {B : Addr → Prop} {W W' : Nat → Prop} {o o1 o2 o' : Nat → Option Addr} {H H1 H2 H' : Hp} {σ σ' : St} {ρ ρ' : Env} {C : Handler}
theorem TAr.arg {pk : Bool} {a : ArgE} {r : Es} {Q : List V → Hp → Prop} (hp : a.ok pk = true) (h : TAr K C pk (.mk a r) σ H Q) : tArg K C a σ H fun x H1 => TAr K C pk r σ H1 fun xs H2 => Q (x :: xs) H2 := by
  cases a with
  | v e => exact TAr.cons h
  | p i =>
    obtain rfl : pk = true := hp
    exact TAr.pk h
theorem tArg.mono {a : ArgE} {Q Q' : VK} (h : tArg K C a σ H Q) (m : ∀ x H1, Q x H1 → Q' x H1) : tArg K C a σ H Q' := by
  cases a with
  | v e =>
    obtain ⟨B, o, ρ, Kc, r, w, f⟩ := h
    exact ⟨B, o, ρ, Kc, r, w, fun o' H' ρ' d v x r rv fr q => m _ _ (f o' H' ρ' d v x r rv fr q)⟩
  | p i =>
    obtain ⟨v, h1, h2⟩ := h
    exact ⟨v, h1, m _ _ h2⟩
theorem TAr.imp {pk : Bool} {es : Es} {Q Q' : List V → Hp → Prop} (h : TAr K C pk es σ H Q) (m : ∀ x H1, Q x H1 → Q' x H1) : TAr K C pk es σ H Q' := by
  obtain ⟨B, o, ρ, Kc, r, w, f⟩ := h
  exact ⟨B, o, ρ, Kc, r, w, fun o' H' ρ' ds vs x r ra q => m _ _ (f o' H' ρ' ds vs x r ra q)⟩
theorem TEr.prim1 {p : Prim} {r : V → Hp → VK → Prop} {a : ArgE} {Q : VK} (hp : a.ok p.pkOk = true) (hpr : PR K p (R1of r)) (h : TEr K C (.prim p (.mk a .nil)) σ H Q) : tArg K C a σ H fun x H1 => r x H1 Q :=
  tArg.mono (TAr.arg hp (TEr.prim hpr h)) fun x H1 q => TAr.nil q x rfl
theorem TEr.prim2 {p : Prim} {r : R2} {a b : ArgE} {Q : VK} (ha : a.ok p.pkOk = true) (hb : b.ok p.pkOk = true) (hpr : PR K p (R2of r)) (h : TEr K C (.prim p (.mk a (.mk b .nil))) σ H Q) : tOp r (tArg K C a) (tArg K C b) σ H Q :=
  tArg.mono (TAr.arg ha (TEr.prim hpr h)) fun x H1 q => tArg.mono (TAr.arg hb q) fun y H2 q2 => TAr.nil q2 x y rfl
/-! ### displays -/
theorem fit_le {xs ys : List AV} (h : fit xs = some ys) : xs.length ≤ sizeLine ∧ ys = xs := fit_iff h
theorem pr_mkTup : PR K .mkTup rMkTup := fun A H ds vs d Q ra e q => by
  change (fit ds).map PyData.tuple = some d at e
  cases e1 : fit ds with
  | none => rw [e1] at e; cases e
  | some ys =>
    rw [e1] at e; cases e
    obtain ⟨h1, rfl⟩ := fit_le e1
    have rs : RVs K A H ys vs := ra
    exact ⟨by rw [← rs.length]; exact h1, fun p hp => q _ _ (post_new hp (.tup rs))⟩
theorem TEr.mkTup {es : Es} {Q : VK} (h : TEr K C (.prim .mkTup es) σ H Q) : tTup (TAr K C false es) σ H Q := TEr.prim (p := .mkTup) pr_mkTup h
theorem TEr.dispR {es : Es} {Q : VK} (h : TEr K C (.disp es) σ H Q) : tLst (TAr K C false es) σ H Q := by
  obtain ⟨B, o, ρ, Kc, r, w, f⟩ := h
  refine ⟨B, o, ρ, _, r, w, fun o1 H1 ρ1 ds vs x1 r1 ra q => ?_⟩
  cases e : fit ds with
  | none => simp only [e] at q; cases q
  | some d =>
    simp only [e] at q
    obtain ⟨h1, rfl⟩ := fit_le e
    have rs : RVs K (Av B o1) H1 d vs := ra
    refine ⟨by rw [← rs.length]; exact h1, fun p hp => ?_⟩
    obtain ⟨x2, r2, rv, fr⟩ := prim_step (fr := true) r1 (post_new hp (.lst rs))
    exact f _ _ _ _ _ (x1.trans x2) r2 rv (fun z => (fr z).trans x1) q

/-! ### slices -/
inductive OV : Option V → Value → Prop
  | none : OV none .none
  | some {x : V} {u : Value} : RelV x u → OV (some x) u
structure POv (X : Cx) (e : Option Expr) (t : St → Hp → (Option V → Hp → Prop) → Prop) : Prop where
  run : ∀ (pins : List (Addr × Obj)) (s : Shared) (σ : St) (H : Hp) (Q : Option V → Hp → Prop), Inv X pins σ H s → t σ H Q →
    wpAny (model X.prog X.w) X.A (evalPart e X.env) (fun u s' => ∃ o H', Inv X pins σ H' s' ∧ OV o u ∧ Q o H') X.xe s
theorem pov_none {X : Cx} : POv X none (fun _ H Q => Q none H) := ⟨fun pins s σ H Q I h => by rw [evalPart_none]; exact wpAny_pure ⟨none, H, I, .none, h⟩⟩
theorem pov_some {X : Cx} {e : Expr} {te : TE} (he : PE X e te) : POv X (some e) (fun σ H Q => te σ H fun x H1 => Q (some x) H1) := ⟨fun pins s σ H Q I h => by
  rw [evalPart_some]
  exact thn (he.run pins s σ H _ I h) fun u s1 ⟨x, H1, I1, r1, q1⟩ => ⟨some x, H1, I1, .some r1, q1⟩⟩
inductive OI : Option V → Option Int → Prop
  | none : OI none none
  | int (i : Int) : OI (some (.int i)) (some i)
theorem OI.part {o : Option V} {i : Option Int} {u : Value} (h : OI o i) (r : OV o u) : IsPart u i := by
  cases h with
  | none => cases r; exact .none
  | int i => cases r with
    | some r => obtain ⟨t, rfl⟩ := r; exact .int i t
theorem pe_slG {X : Cx} {e : Expr} {lo hi : Option Expr} {te : TE} {tl th : St → Hp → (Option V → Hp → Prop) → Prop} {r : V → Option Int → Option Int → Hp → VK → Prop} {p2 pos : Pos} (hr : SlR X r) (he : PE X e te) (hl : POv X lo tl) (hu : POv X hi th) :
    PE X (.Subscript e (.Slice lo hi none p2) pos) (fun σ H Q => te σ H fun x H1 => tl σ H1 fun l H2 => th σ H2 fun u H3 => ∃ i j, OI l i ∧ OI u j ∧ r x i j H3 Q) := by
  refine ⟨fun pins s σ H Q I h => ?_⟩
  refine Subscript_ (thn (he.run pins s σ H _ I h) fun v s1 ⟨x, H1, I1, r1, q1⟩ => ?_)
  refine wpAny_Slice (thn (hl.run pins s1 σ H1 _ I1 q1) fun vl s2 ⟨l, H2, I2, pl, q2⟩ => thn (hu.run pins s2 σ H2 _ I2 q2) fun vu s3 ⟨u, H3, I3, pu, q3⟩ => ?_)
  rw [evalPart_none]
  refine wpAny_pure ?_
  obtain ⟨i, j, oi, oj, q3⟩ := q3
  have I4 : Inv X pins σ H3 { s3 with heap := s3.heap.push { cls := .type "slice", data := .fields #[vl, vu, .none] } } := I3.kept (t' := s3.toks) fun b ob q => Heap.get?_push_of_some _ q
  obtain ⟨T, id, hT, ht, hg⟩ := hr pins { s3 with heap := s3.heap.push { cls := .type "slice", data := .fields #[vl, vu, .none] } } σ H3 x v vl vu i j s3.heap.objs.size Q I4 r1 (Heap.IsSliceOf.new ..) (oi.part pl) (oj.part pu) q3
  show wpAny (model X.prog X.w) X.A (subscriptTail e (.Slice lo hi none p2) v (.ref s3.heap.objs.size)) (EP X pins σ Q) X.xe { s3 with heap := s3.heap.push { cls := .type "slice", data := .fields #[vl, vu, .none] } }
  exact tail_any (ops := [.ref s3.heap.objs.size, v]) ht hT hg (by with_unfolding_all rfl)
def rSl (K : PySem.W.Frag) : V → Option Int → Option Int → Hp → VK → Prop := fun x lo hi H Q => rSlL K x lo hi H Q ∨ rSlA K x lo hi H Q
theorem sl_all {X : Cx} : SlR X (rSl X.K) := SlR.or sl_list sl_tupA
theorem cut_rvs {A : Addr → Prop} {ds : List AV} {vs : List V} {lo hi : Option Int} (rs : RVs K A H ds vs) : RVs K A H (cut ds lo hi) (cutV vs lo hi) := by
  unfold cut cutV
  rw [rs.length]
  exact (rs.drop _).take _
theorem cut_whole {ds : List AV} {n : Nat} {lo hi : Option Int} (hn : ds.length = n) (h : HT.sIx n 0 lo = 0 ∧ HT.sIx n n hi = n) : cut ds lo hi = ds := by
  unfold cut
  rw [hn, h.1, h.2, List.drop_zero]
  exact List.take_of_length_le (by omega)
theorem sl_ok {A : Addr → Prop} {a d : AV} {x : V} {lo hi : Option Int} {Q : VK} (ra : RVp K A H a x) (e : cutS a lo hi = some d) (q : ∀ v H', PostP K A H false d v H' → Q v H') : rSl K x lo hi H Q := by
  cases a with
  | list xs =>
    cases e
    obtain ⟨l, vs, rfl, h, rs⟩ := ra.list
    exact .inl ⟨l, vs, rfl, .inl (.inl h), fun p hp => q _ _ (post_new hp (.lst (cut_rvs rs)))⟩
  | tuple xs =>
    cases e
    obtain ⟨l, vs, rfl, h, rs⟩ := ra.tuple.tuple
    refine .inr ⟨l, vs, rfl, h, fun hw => ?_, fun _ p hp => q _ _ (post_new hp (.tup (cut_rvs rs)))⟩
    rw [cut_whole rs.length hw] at q
    exact q _ _ (post_old ra.tuple)
  | _ => cases e
def rSlc (K : PySem.W.Frag) (lo hi : Bool) : List V → Hp → VK → Prop := fun vs H Q => match lo, hi with
  | true, true => ∀ x l u, vs = [x, l, u] → ∃ i j, OI (some l) i ∧ OI (some u) j ∧ rSl K x i j H Q
  | true, false => ∀ x l, vs = [x, l] → ∃ i j, OI (some l) i ∧ OI none j ∧ rSl K x i j H Q
  | false, true => ∀ x u, vs = [x, u] → ∃ i j, OI none i ∧ OI (some u) j ∧ rSl K x i j H Q
  | false, false => ∀ x, vs = [x] → ∃ i j, OI none i ∧ OI none j ∧ rSl K x i j H Q
theorem pr_slc {lo hi : Bool} : PR K (.slice lo hi) (rSlc K lo hi) := fun A H ds vs d Q ra e q => by
  have rp := ra.p
  cases lo <;> cases hi
  · intro x hv
    subst hv
    obtain ⟨a, rfl, r1⟩ := Paired.one' rp
    exact ⟨none, none, .none, .none, sl_ok r1 e q⟩
  · intro x u hv
    subst hv
    obtain ⟨a, b, rfl, r1, r2⟩ := Paired.two' rp
    cases b <;> first | (cases e; done) | skip
    rw [r2.int]
    exact ⟨none, _, .none, .int _, sl_ok r1 e q⟩
  · intro x u hv
    subst hv
    obtain ⟨a, b, rfl, r1, r2⟩ := Paired.two' rp
    cases b <;> first | (cases e; done) | skip
    rw [r2.int]
    exact ⟨_, none, .int _, .none, sl_ok r1 e q⟩
  · intro x l u hv
    subst hv
    cases rp with
    | @cons a _ ds' _ r1 t =>
      obtain ⟨b, c, rfl, r2, r3⟩ := Paired.two' t
      cases b <;> first | (cases e; done) | skip
      cases c <;> first | (cases e; done) | skip
      rw [r2.int, r3.int]
      exact ⟨_, _, .int _, .int _, sl_ok r1 e q⟩
theorem TEr.slc00 {a : ArgE} {Q : VK} (h : TEr K C (.prim (.slice false false) (.mk a .nil)) σ H Q) : tArg K C a σ H fun x H1 => ∃ i j, OI none i ∧ OI none j ∧ rSl K x i j H1 Q :=
  tArg.mono (TAr.arg (by cases a <;> rfl) (TEr.prim pr_slc h)) fun x H1 q => TAr.nil q x rfl
theorem TEr.slc10 {a b : ArgE} {Q : VK} (h : TEr K C (.prim (.slice true false) (.mk a (.mk b .nil))) σ H Q) : tArg K C a σ H fun x H1 => tArg K C b σ H1 fun l H2 => ∃ i j, OI (some l) i ∧ OI none j ∧ rSl K x i j H2 Q :=
  tArg.mono (TAr.arg (by cases a <;> rfl) (TEr.prim pr_slc h)) fun x H1 q => tArg.mono (TAr.arg (by cases b <;> rfl) q) fun y H2 q2 => TAr.nil q2 x y rfl
theorem TEr.slc01 {a b : ArgE} {Q : VK} (h : TEr K C (.prim (.slice false true) (.mk a (.mk b .nil))) σ H Q) : tArg K C a σ H fun x H1 => tArg K C b σ H1 fun l H2 => ∃ i j, OI none i ∧ OI (some l) j ∧ rSl K x i j H2 Q :=
  tArg.mono (TAr.arg (by cases a <;> rfl) (TEr.prim pr_slc h)) fun x H1 q => tArg.mono (TAr.arg (by cases b <;> rfl) q) fun y H2 q2 => TAr.nil q2 x y rfl
theorem TEr.slc11 {a b c : ArgE} {Q : VK} (h : TEr K C (.prim (.slice true true) (.mk a (.mk b (.mk c .nil)))) σ H Q) : tArg K C a σ H fun x H1 => tArg K C b σ H1 fun l H2 => tArg K C c σ H2 fun u H3 => ∃ i j, OI (some l) i ∧ OI (some u) j ∧ rSl K x i j H3 Q :=
  tArg.mono (TAr.arg (by cases a <;> rfl) (TEr.prim pr_slc h)) fun x H1 q => tArg.mono (TAr.arg (by cases b <;> rfl) q) fun y H2 q2 => tArg.mono (TAr.arg (by cases c <;> rfl) q2) fun z H3 q3 => TAr.nil q3 x y z rfl

/-! ### xs[::-1], xs.index(x), list(range(..)) -/
def rRevR (K : PySem.W.Frag) : V → Hp → VK → Prop := fun x H1 Q => ∃ a xs, x = .ref a ∧ SqL K H1 a xs ∧ ∀ p, H1 p = none → Q (.ref p) (upd H1 p (.lst xs.reverse))
theorem lst_canLay {ds : List AV} (h : SeqAt.shaped (.list ds) = true) : PyData.canLayAll0 ds = true := by
  have := SeqAt.canLay_of_shaped h
  simpa [PyData.canLay0] using this
theorem indexS_iff {x : AV} : ∀ {ds : List AV} {n : Nat} {k : Int}, indexS x ds n = some k → ∃ (j : Nat) (z : AV), k = ((n + j : Nat) : Int) ∧ ds[j]? = some z ∧ PyData.eqv z x = true ∧ ∀ (m : Nat) (z' : AV), m < j → ds[m]? = some z' → PyData.eqv z' x = false
  | [], _, _, h => by cases h
  | y :: r, n, k, h => by
    unfold indexS at h
    split at h
    · rename_i e
      cases h
      exact ⟨0, y, by simp, rfl, e, fun m z' hm => absurd hm (Nat.not_lt_zero _)⟩
    · rename_i e
      obtain ⟨j, z, h1, h2, h3, h4⟩ := indexS_iff h
      refine ⟨j + 1, z, by rw [h1]; congr 1; omega, by simpa using h2, h3, fun m z' hm hz => ?_⟩
      cases m with
      | zero => simp at hz; subst hz; simpa using e
      | succ m => exact h4 m z' (by omega) (by simpa using hz)
theorem TEr.idxR {a e : E} {Q : VK} (h : TEr K C (.idx a e) σ H Q) : tBM K "list" (rIndexD K) (TEr K C a) (tCons (TEr K C e) tNil) σ H Q := by
  obtain ⟨B, o, ρ, Kc, r, w, f⟩ := h
  refine ⟨B, o, ρ, _, r, w, fun o1 H1 ρ1 d v x1 r1 rv frx q => ?_⟩
  split at q
  · rename_i xs
    obtain ⟨p, us, rfl, hx, rs⟩ := (RVp.val rv).list
    refine ⟨.inl ⟨rfl, us, .inl (.inl hx)⟩, B, o1, ρ1, _, r1, q, fun o2 H2 ρ2 d2 v2 x2 r2 rv2 _ q2 => ?_⟩
    split at q2
    · rename_i he
      split at q2
      · rename_i n hn
        unfold eqOk at he
        rw [Bool.and_eq_true] at he
        obtain ⟨j, z, rfl, h2, h3, h4⟩ := indexS_iff hn
        have rv' := x2.rv rv
        refine ⟨p, v2, d2, xs, j, z, rfl, rfl, rv'.dp (SeqAt.canLay_of_shaped he.2), rv2.dp (SeqAt.canLay_of_shaped he.1), he.2, he.1, h2, h3, h4, ?_⟩
        rw [Nat.zero_add] at q2
        exact f _ _ _ _ _ (x1.trans x2) r2 (.int _) (fun z => by cases z) q2
      · cases q2
    · cases q2
  · cases q
def rRgL1 : List V → Hp → VK → Prop := fun vs H Q => ∀ x, vs = [x] → ∃ n, x = .int n ∧ RgOk 0 n ∧ ∀ q, H q = none → Q (.ref q) (upd H q (.lst (rgV 0 n)))
def rRgL2 : List V → Hp → VK → Prop := fun vs H Q => ∀ x y, vs = [x, y] → ∃ i j, x = .int i ∧ y = .int j ∧ RgOk i j ∧ ∀ q, H q = none → Q (.ref q) (upd H q (.lst (rgV i j)))
theorem rvs_range {A : Addr → Prop} {i j : Int} {n : Nat} (hn : n = (j - i).toNat) : RVs K A H (rangeList i n 1) (rgV i j) := by
  subst hn
  unfold rangeList rgV
  generalize List.range (j - i).toNat = l
  induction l with
  | nil => exact .nil
  | cons a l ih =>
    rw [List.map_cons, List.map_cons, Int.mul_one]
    exact .cons (.int _) ih
theorem fit_sz {xs ys : List AV} (h : fit xs = some ys) : xs.length ≤ 2 ^ 24 ∧ ys = xs := by
  unfold fit at h
  split at h
  · rename_i hl; cases h; exact ⟨hl, rfl⟩
  · cases h
theorem rangeList_len' {a c : Int} {n : Nat} : (rangeList a n c).length = n := by simp [rangeList]
theorem pr_rgl1 : PR K .rangeL1 rRgL1 := fun A H ds vs d Q ra e q x hv => by
  subst hv
  obtain ⟨a, rfl, r1⟩ := Paired.one' ra.p
  change ((range1 [a]).bind fit).map PyData.list = some d at e
  cases a with
  | int n =>
    cases e1 : range1 [.int n] with
    | none => rw [e1] at e; cases e
    | some ys =>
      rw [e1] at e
      simp only [Option.bind_some] at e
      cases e2 : fit ys with
      | none => rw [e2] at e; cases e
      | some zs =>
        rw [e2] at e; cases e
        obtain ⟨h1, rfl⟩ := fit_sz e2
        simp only [range1] at e1
        split at e1
        · rename_i hs
          cases e1
          have := small62_iff hs
          rw [rangeList_len'] at h1
          refine ⟨n, r1.int, ⟨by omega, by omega, this.1, this.2, by rw [Int.sub_zero]; exact h1⟩, fun p hp => q _ _ (post_new hp (.lst (rvs_range (by rw [Int.sub_zero]))))⟩
        · cases e1
  | _ => cases e
theorem pr_rgl2 : PR K .rangeL2 rRgL2 := fun A H ds vs d Q ra e q x y hv => by
  subst hv
  obtain ⟨a, b, rfl, r1, r2⟩ := Paired.two' ra.p
  change ((range2 [a, b]).bind fit).map PyData.list = some d at e
  cases e1 : range2 [a, b] with
  | none => rw [e1] at e; cases e
  | some ys =>
    rw [e1] at e
    simp only [Option.bind_some] at e
    cases e2 : fit ys with
    | none => rw [e2] at e; cases e
    | some zs =>
      rw [e2] at e; cases e
      obtain ⟨h1, rfl⟩ := fit_sz e2
      cases a <;> cases b <;> first | (cases e1; done) | skip
      rename_i i j
      simp only [range2] at e1
      split at e1
      · rename_i hs
        cases e1
        rw [Bool.and_eq_true] at hs
        have h3 := small62_iff hs.1
        have h4 := small62_iff hs.2
        rw [rangeList_len'] at h1
        exact ⟨i, j, r1.int, r2.int, ⟨h3.1, h3.2, h4.1, h4.2, h1⟩, fun p hp => q _ _ (post_new hp (.lst (rvs_range rfl)))⟩
      · cases e1
theorem TEr.rgl1 {e : E} {Q : VK} (h : TEr K C (.prim .rangeL1 (.cons e .nil)) σ H Q) : tLstRg (tRg1 (TEr K C e)) σ H Q :=
  tArg.mono (a := .v e) (TAr.cons (TEr.prim pr_rgl1 h)) fun x H1 q => TAr.nil q x rfl
theorem TEr.rgl2 {e e2 : E} {Q : VK} (h : TEr K C (.prim .rangeL2 (.cons e (.cons e2 .nil))) σ H Q) : tLstRg (tRg2 (TEr K C e) (TEr K C e2)) σ H Q :=
  tArg.mono (a := .v e) (TAr.cons (TEr.prim pr_rgl2 h)) fun x H1 q => tArg.mono (a := .v e2) (TAr.cons q) fun y H2 q2 => TAr.nil q2 x y rfl
end
end G
namespace G
open PySem PySem.Spec PyProof.Rows L2

section
variable {K : PySem.W.Frag} {B : Addr → Prop} {W W' : Nat → Prop} {o o1 o2 o' : Nat → Option Addr} {H H1 H2 H' : Hp} {σ σ' : St} {ρ ρ' : Env} {C : Handler}
theorem pr_rev : PR K .rev (R1of (rRevR K)) := PR1.of fun A H a x d Q ra e q => by
  cases a with
  | list xs =>
    cases e
    obtain ⟨l, vs, rfl, h, rs⟩ := ra.list
    exact ⟨l, vs, rfl, .inl (.inl h), fun p hp => q _ _ (post_new hp (.lst rs.reverse))⟩
  | _ => cases e
theorem TEr.revR {a : ArgE} {Q : VK} (h : TEr K C (.prim .rev (.mk a .nil)) σ H Q) : tRevL K (tArg K C a) σ H Q := TEr.prim1 (by cases a <;> rfl) pr_rev h

/-! ### new dicts -/
theorem TEr.newK {Q : VK} (h : TEr K C (.prim (.newD 0) .nil) σ H Q) : tDNewK σ H Q := by
  obtain ⟨B, o, ρ, Kc, r, w, f⟩ := h
  intro p hp
  obtain ⟨x2, r2, rv, fr⟩ := prim_step (fr := true) (d := mkD 0 []) r (post_new hp (.dK .nil))
  exact f _ _ _ _ _ x2 r2 rv fr w
theorem TEr.newT {Q : VK} (h : TEr K C (.prim (.newD 1) .nil) σ H Q) : tDNewT σ H Q := by
  obtain ⟨B, o, ρ, Kc, r, w, f⟩ := h
  intro p hp
  obtain ⟨x2, r2, rv, fr⟩ := prim_step (fr := true) (d := mkD 1 []) r (post_new hp (.dT .nil))
  exact f _ _ _ _ _ x2 r2 rv fr w

/-! ### putting -/
theorem RK.any {A : Addr → Prop} {kk : Key} : ∀ {ds : List (AV × AV)} {kvs : List (Key × V)}, RK K A H ds kvs → (ds.any fun p => PyData.eqv p.1 (keyV kk)) = (kvs.any fun kv => decide (kv.1 = kk))
  | [], _, h => by cases h; rfl
  | _ :: ds, _, h => by
    cases h with
    | @cons k d _ v vs a b => rw [List.any_cons, List.any_cons, RK.any b, keyV_eqv]
theorem RT.any {A : Addr → Prop} {kk : List Key} : ∀ {ds : List (AV × AV)} {kvs : List (List Key × V)}, RT K A H ds kvs → (ds.any fun p => PyData.eqv p.1 (.tuple (kk.map keyV))) = (kvs.any fun kv => decide (kv.1 = kk))
  | [], _, h => by cases h; rfl
  | _ :: ds, _, h => by
    cases h with
    | @cons k d _ v vs a b =>
      rw [List.any_cons, List.any_cons, RT.any b]
      rw [show PyData.eqv (.tuple (k.map keyV)) (.tuple (kk.map keyV)) = decide (k = kk) from keysV_eqv k kk]
theorem RK.snoc {A : Addr → Prop} {k : Key} {d : AV} {v : V} (hv : RV K A H d v) : ∀ {ds : List (AV × AV)} {kvs : List (Key × V)}, RK K A H ds kvs → RK K A H (ds ++ [(keyV k, d)]) (kvs ++ [(k, v)])
  | [], _, h => by cases h; exact .cons hv .nil
  | _ :: ds, _, h => by
    cases h with
    | cons a b => exact .cons a (RK.snoc hv b)
theorem RT.snoc {A : Addr → Prop} {k : List Key} {d : AV} {v : V} (hv : RV K A H d v) : ∀ {ds : List (AV × AV)} {kvs : List (List Key × V)}, RT K A H ds kvs → RT K A H (ds ++ [(.tuple (k.map keyV), d)]) (kvs ++ [(k, v)])
  | [], _, h => by cases h; exact .cons hv .nil
  | _ :: ds, _, h => by
    cases h with
    | cons a b => exact .cons a (RT.snoc hv b)
theorem RK.repl {A : Addr → Prop} {kk : Key} {e : AV} {u : V} (hv : RV K A H e u) : ∀ {ds : List (AV × AV)} {kvs : List (Key × V)}, RK K A H ds kvs → RK K A H (ds.map fun p => if PyData.eqv p.1 (keyV kk) then (p.1, e) else p) (kvs.map fun kv => if kv.1 = kk then (kv.1, u) else kv)
  | [], _, h => by cases h; exact .nil
  | _ :: ds, _, h => by
    cases h with
    | @cons k d _ v vs a b =>
      rw [List.map_cons, List.map_cons]
      by_cases hk : k = kk
      · rw [if_pos (by rw [keyV_eqv]; simp [hk]), if_pos hk]
        exact .cons hv (RK.repl hv b)
      · rw [if_neg (by rw [keyV_eqv]; simp [hk]), if_neg hk]
        exact .cons a (RK.repl hv b)
theorem RT.repl {A : Addr → Prop} {kk : List Key} {e : AV} {u : V} (hv : RV K A H e u) : ∀ {ds : List (AV × AV)} {kvs : List (List Key × V)}, RT K A H ds kvs → RT K A H (ds.map fun p => if PyData.eqv p.1 (.tuple (kk.map keyV)) then (p.1, e) else p) (kvs.map fun kv => if kv.1 = kk then (kv.1, u) else kv)
  | [], _, h => by cases h; exact .nil
  | _ :: ds, _, h => by
    cases h with
    | @cons k d _ v vs a b =>
      have e1 : PyData.eqv (.tuple (k.map keyV)) (.tuple (kk.map keyV)) = decide (k = kk) := keysV_eqv k kk
      rw [List.map_cons, List.map_cons]
      by_cases hk : k = kk
      · rw [if_pos (by rw [e1]; simp [hk]), if_pos hk]
        exact .cons hv (RT.repl hv b)
      · rw [if_neg (by rw [e1]; simp [hk]), if_neg hk]
        exact .cons a (RT.repl hv b)
theorem RK.put {A : Addr → Prop} {k : Key} {d : AV} {v : V} {ds : List (AV × AV)} {kvs : List (Key × V)} (h : RK K A H ds kvs) (hv : RV K A H d v) : RK K A H (putD (keyV k) d ds) (putK kvs k v) := by
  unfold putD putK
  rw [h.any]
  split
  · exact h.repl hv
  · exact h.snoc hv
theorem RT.put {A : Addr → Prop} {k : List Key} {d : AV} {v : V} {ds : List (AV × AV)} {kvs : List (List Key × V)} (h : RT K A H ds kvs) (hv : RV K A H d v) : RT K A H (putD (.tuple (k.map keyV)) d ds) (putK kvs k v) := by
  unfold putD putK
  rw [h.any]
  split
  · exact h.repl hv
  · exact h.snoc hv
theorem RK.merge {A : Addr → Prop} : ∀ {es : List (AV × AV)} {more : List (Key × V)} {ds : List (AV × AV)} {kvs : List (Key × V)}, RK K A H ds kvs → RK K A H es more → RK K A H (mergeD ds es) (mergeK kvs more)
  | [], _, _, _, h, h' => by cases h'; exact h
  | _ :: es, _, _, _, h, h' => by
    cases h' with
    | @cons k _ _ _ _ a b =>
      have := RK.merge (es := es) (h.put (k := k) a) b
      exact this

/-! ### dict(pairs) -/
theorem pairs_rk {A : Addr → Prop} : ∀ {ds : List AV} {vs : List V} {dk : List (AV × AV)}, RVs K A H ds vs → pairsS ds = some dk → ∃ (ps : List Addr) (kvs : List (Key × V)), vs = ps.map V.ref ∧ Paired (fun p kv => SqT K H p [kV kv.1, kv.2]) ps kvs ∧ RK K A H dk kvs
  | [], _, _, h, e => by cases h; cases e; exact ⟨[], [], rfl, .nil, .nil⟩
  | x :: ds, _, dk, h, e => by
    cases h with
    | cons h1 h2 =>
      cases x with
      | tuple xs =>
        cases xs with
        | nil => cases e
        | cons k r1 =>
          cases r1 with
          | nil => cases e
          | cons v r2 =>
            cases r2 with
            | cons _ _ => cases e
            | nil =>
              simp only [pairsS] at e
              split at e
              · rename_i hf
                cases e2 : pairsS ds with
                | none => rw [e2] at e; cases e
                | some dk' =>
                  rw [e2] at e; cases e
                  obtain ⟨kk, rfl⟩ := flatKey_iff hf
                  obtain ⟨ps, kvs, e3, e4, e5⟩ := pairs_rk h2 e2
                  obtain ⟨a, us, rfl, sq, rs⟩ := h1.tuple
                  cases rs with
                  | cons a1 t =>
                    cases t with
                    | cons a2 t2 =>
                      cases t2
                      rw [a1.key] at sq
                      exact ⟨a :: ps, (kk, _) :: kvs, by rw [e3]; rfl, .cons sq e4, .cons a2 e5⟩
              · cases e
      | _ => cases e
def rDictP (K : PySem.W.Frag) : V → Hp → VK → Prop := fun x H Q => ∃ (a : Addr) (ps : List Addr) (kvs : List (Key × V)), x = .ref a ∧ SqL K H a (ps.map V.ref) ∧ Paired (fun p kv => SqT K H p [kV kv.1, kv.2]) ps kvs ∧
    ∀ p, H p = none → Q (.ref p) (upd H p (.dK (mergeK [] kvs)))
theorem call_dictPR {X : Cx} (hc : X.calm = true) : CallR X (.type "dict") (C1 (rDictP X.K)) := by
  intro pins s σ H xs us Q I r h
  obtain ⟨x, rfl, a, ps, kvs, rfl, h1, h2, h3⟩ := h
  exact call_dictP hc pins s σ H _ us Q I r ⟨a, ps, kvs, rfl, h1, h2, h3⟩
theorem pr_dictP : PR K .dictP (R1of (rDictP K)) := PR1.of fun A H a x d Q ra e q => by
  cases a with
  | list xs =>
    change (pairsS xs).map (fun kvs => mkD 0 (mergeD [] kvs)) = some d at e
    cases e1 : pairsS xs with
    | none => rw [e1] at e; cases e
    | some dk =>
      rw [e1] at e; cases e
      obtain ⟨l, vs, rfl, h, rs⟩ := ra.list
      obtain ⟨ps, kvs, rfl, h2, h3⟩ := pairs_rk rs e1
      exact ⟨l, ps, kvs, rfl, .inl (.inl h), h2, fun p hp => q _ _ (post_new hp (.dK (RK.merge .nil h3)))⟩
  | _ => cases e

/-! ### {k: v, ..} -/
def flatE : List (E × E) → Es
  | [] => .nil
  | (k, v) :: r => .cons k (.cons v (flatE r))
theorem TAr.pairs : ∀ {ps : List (E × E)} {σ : St} {H : Hp} {Q : List V → Hp → Prop}, TAr K C false (flatE ps) σ H Q → tPairs (ps.map fun p => (TEr K C p.1, TEr K C p.2)) σ H fun prs H' => Q (prs.flatMap fun p => [p.1, p.2]) H'
  | [], _, _, _, h => TAr.nil h
  | (k, v) :: r, _, _, _, h => tArg.mono (a := .v k) (TAr.cons h) fun x H1 q => tArg.mono (a := .v v) (TAr.cons q) fun y H2 q2 => TAr.pairs (ps := r) q2
theorem Rep.changeB {p : Addr} {y : HO} (r : Rep K (Bp B p) o σ H ρ) (n : ∀ i, o i ≠ some p) : Rep K (Bp B p) o σ (upd H p y) ρ := by
  have st : ∀ b z, H b = some z → ¬ Av (Bp B p) o b → upd H p y b = some z ∧ ¬ Av (Bp B p) o b := fun b z e h => ⟨by rw [upd_ne (fun q => h (.inl (.inr q)))]; exact e, h⟩
  refine ⟨r.len, fun i s e => (r.slot i s e).mono st fun a z e1 e2 => ?_, r.out, r.inj, fun a h => ?_, r.free⟩
  · rw [upd_ne (fun q => n i (by rw [e1, q]))]; exact e2
  · by_cases e : a = p
    · rw [e, upd_same]; simp
    · rw [upd_ne e]; exact r.low a h
theorem alt_rk {A : Addr → Prop} : ∀ {prs : List (V × V)} {ds : List AV} {dk : List (AV × AV)}, RVs K A H ds (prs.flatMap fun p => [p.1, p.2]) → altS ds = some dk → ∃ kvs : List (Key × V), prs = kvs.map (fun kv => (kV kv.1, kv.2)) ∧ RK K A H dk kvs
  | [], _, _, h, e => by cases h; cases e; exact ⟨[], rfl, .nil⟩
  | (x, y) :: prs, _, dk, h, e => by
    rw [List.flatMap_cons] at h
    cases h with
    | @cons d1 ds1 _ _ h1 h2 =>
      cases h2 with
      | @cons d2 ds2 _ _ h3 h4 =>
        simp only [altS] at e
        split at e
        · rename_i hf
          obtain ⟨kk, rfl⟩ := flatKey_iff hf
          cases e2 : altS ds2 with
          | none => rw [e2] at e; cases e
          | some dk' =>
            rw [e2] at e; cases e
            obtain ⟨kvs, e3, e4⟩ := alt_rk h4 e2
            refine ⟨(kk, y) :: kvs, ?_, .cons h3 e4⟩
            have hk : x = kV kk := h1.key
            rw [List.map_cons, e3, hk]
        · cases e
theorem RK.length {A : Addr → Prop} : ∀ {ds : List (AV × AV)} {kvs : List (Key × V)}, RK K A H ds kvs → ds.length = kvs.length
  | [], _, h => by cases h; rfl
  | _ :: ds, _, h => by
    cases h with
    | cons a b => simp [RK.length b]
theorem TEr.dispDR {ps : List (E × E)} {Q : VK} (h : TEr K C (.prim .dispD (flatE ps)) σ H Q) : tDisp (ps.map fun p => (TEr K C p.1, TEr K C p.2)) σ H Q := by
  obtain ⟨B, o, ρ, Kc, r, w, f⟩ := h
  intro p hp
  have rl := r.laid (x := .dK []) hp
  have np : ∀ i, o i ≠ some p := fun i z => r.some_own z hp
  have t : TAr K C false (flatE ps) σ (upd H p (.dK [])) fun vs H2 => ∀ prs : List (V × V), vs = (prs.flatMap fun p => [p.1, p.2]) → H2 p = some (.dK []) ∧ ∃ kvs : List (Key × V), prs = kvs.map (fun kv => (kV kv.1, kv.2)) ∧ kvs.length ≤ 15 ∧ Q (.ref p) (upd H2 p (.dK (mergeK [] kvs))) := by
    refine ⟨Bp B p, o, ρ, _, rl, w, fun o1 H1 ρ1 ds vs x1 r1 ra q prs hv => ?_⟩
    subst hv
    have rs : RVs K (Av (Bp B p) o1) H1 ds _ := ra
    have hp1 : H1 p = some (.dK []) := x1.keep p _ upd_same np
    have np1 : ∀ i, o1 i ≠ some p := fun i z => by
      rcases x1.own i p z with z | ⟨z, _⟩
      · exact np i z
      · exact z.elim
    refine ⟨hp1, ?_⟩
    change (match (altS ds).bind fun kvs => if kvs.length ≤ 15 then some (mkD 0 (mergeD [] kvs)) else none with
      | some v => Kc v ρ1
      | none => false) = true at q
    cases e : altS ds with
    | none => rw [e] at q; cases q
    | some dk =>
      rw [e] at q
      simp only [Option.bind_some] at q
      split at q
      · rename_i d hd
        split at hd
        · rename_i h15
          cases hd
          obtain ⟨kvs, e3, e4⟩ := alt_rk rs e
          refine ⟨kvs, e3, by rw [← e4.length]; exact h15, ?_⟩
          have st : ∀ b z, H1 b = some z → ¬ Av (Bp B p) o1 b → upd H1 p (.dK (mergeK [] kvs)) b = some z ∧ ¬ Av (Bp B p) o1 b := fun b z e h => ⟨by rw [upd_ne (fun q => h (.inl (.inr q)))]; exact e, h⟩
          have rc := r1.changeB (y := .dK (mergeK [] kvs)) np1
          have cont : Cont K (Av (Bp B p) o1) (upd H1 p (.dK (mergeK [] kvs))) (mkD 0 (mergeD [] dk)) (.dK (mergeK [] kvs)) := .dK ((RK.merge .nil e4).mono st)
          have nav : ¬ Av B o1 p := fun z => by
            rcases z with z | ⟨i, z⟩
            · exact r.low p z hp
            · exact np1 i z
          have xx : Ext0 o H o1 (upd H1 p (.dK (mergeK [] kvs))) := by
            refine ⟨fun b z e n => ?_, fun b n => ?_, fun i b e => ?_⟩
            · have hb : b ≠ p := fun z => by rw [z, hp] at e; cases e
              rw [upd_ne hb]
              exact x1.keep b z (by rw [upd_ne hb]; exact e) n
            · have hb : b ≠ p := fun z => n (by rw [z]; exact hp)
              rw [upd_ne hb]
              exact x1.there b (by rw [upd_ne hb]; exact n)
            · rcases x1.own i b e with z | ⟨z, _⟩
              · exact .inl z
              · exact z.elim
          refine f o1 _ ρ1 _ _ xx rc.unBp ?_ (fun _ => ⟨p, _, rfl, hp, np1, upd_same, rc, cont⟩) q
          exact (cont.mono (A' := Av B o1) fun b z e n => ⟨e, fun y => n (av_bp.mpr (.inl y))⟩).rv upd_same nav
        · cases hd
      · cases q
  have t2 := TAr.pairs t
  have mono : ∀ (trs : List (E × E)) (σ : St) (H : Hp) (Q Q' : List (V × V) → Hp → Prop), tPairs (trs.map fun p => (TEr K C p.1, TEr K C p.2)) σ H Q → (∀ a b, Q a b → Q' a b) → tPairs (trs.map fun p => (TEr K C p.1, TEr K C p.2)) σ H Q' := by
    intro trs
    induction trs with
    | nil => intro σ H Q Q' h m; exact m _ _ h
    | cons p r ih =>
      intro σ H Q Q' h m
      exact tArg.mono (a := .v p.1) h fun x H1 q => tArg.mono (a := .v p.2) q fun y H2 q2 => ih σ H2 _ _ q2 fun a b z => m _ _ z
  exact mono ps σ _ _ _ t2 fun prs H2 q => q prs rfl

/-! ### xs.pop(i) -/
theorem TEr.popAtR {i : Nat} {e : E} {Q : VK} (h : TEr K C (.popAt i e) σ H Q) : tBM K "list" rPopAt (tVar i) (tCons (TEr K C e) tNil) σ H Q := by
  obtain ⟨B, o, ρ, Kc, r, w, f⟩ := h
  rw [wpE] at w
  split at w
  · rename_i ho
    unfold isOl at ho
    cases hs : ρ[i]? with
    | none => rw [hs] at ho; cases ho
    | some s =>
      rw [hs] at ho
      cases s with
      | olst l ds =>
        obtain ⟨a, xs, hv, hoa, hx, rs⟩ := r.olst hs
        refine ⟨.ref a, hv, .inl ⟨rfl, _, .inl (.inl hx)⟩, B, o, ρ, _, r, w, fun o1 H1 ρ1 d v x1 r1 rv frx q => ?_⟩
        split at q
        · rename_i k l1 ds1 hs1
          obtain ⟨a1, xs1, hv1, ho1, hx1, rs1⟩ := r1.olst hs1
          rw [hv] at hv1; cases hv1
          split at q
          · rename_i j hj
            split at hj
            · rename_i hz
              split at q
              · rename_i y hy
                cases rv
                obtain ⟨u, hu, ru⟩ := rs1.get hy
                obtain ⟨x2, r2⟩ := r1.change (s' := .olst l1 (ds1.eraseIdx j)) hs1 ho1 hx1 (.lst (rs1.eraseIdx j)) rfl
                rw [rs1.length] at hj hz
                obtain ⟨g1, g2, g3⟩ := ixN_fits hj (by rw [sizeLine_eq]; exact hz)
                exact ⟨a, xs1, k, j, u, rfl, rfl, hx1, g1, g2, g3, hu, f _ _ _ _ _ (x1.trans x2) r2 (x2.rv ru) (fun z => by cases z) q⟩
              · cases q
            · cases hj
          · cases q
        · cases q
      | _ => cases ho
  · cases w

/-! ### a draw -/
theorem Rep.change' {i : Nat} {a : Addr} {s s' : Slot} {y : HO} (r : Rep K B o σ H ρ) (hs : ρ[i]? = some s) (ho : o i = some a) (hy : H' a = some y) (hk : ∀ b x, b ≠ a → H b = some x → H' b = some x) (c : OwnC K (Av B o) H s' y) (hl : s'.ln = s.ln) :
    Ext0 o H o H' ∧ Rep K B o σ H' (ρ.set i s') := by
  have st : ∀ b z, H b = some z → ¬ Av B o b → H' b = some z ∧ ¬ Av B o b := fun b z e n => ⟨hk b z (fun q => n (.inr ⟨i, by rw [q]; exact ho⟩)) e, n⟩
  have th : ∀ b, H b ≠ none → H' b ≠ none := fun b h => by
    by_cases e : b = a
    · rw [e, hy]; simp
    · cases q : H b with
      | none => exact absurd q h
      | some z => rw [hk b z e q]; simp
  have hi : i < ρ.length := (List.getElem?_eq_some_iff.mp hs).1
  refine ⟨⟨fun b z e n => hk b z (fun q => n i (by rw [q]; exact ho)) e, th, fun _ _ e => .inl e⟩, ?_⟩
  refine ⟨by rw [List.length_set]; exact r.len, fun j t e => ?_, fun j h => r.out j (by rw [List.length_set] at h; exact h), r.inj, fun b h => th b (r.low b h), fun j t b e1 e2 e3 => ?_⟩
  · by_cases hj : j = i
    · subst hj
      rw [List.getElem?_set_self hi] at e; cases e
      have q := r.slot j s hs
      rw [ho] at q ⊢
      generalize hsv : σ[j]? = sv at q
      cases q with
      | own e1 c1 => exact .own hy (c.mono st)
    · rw [List.getElem?_set_ne (Ne.symm hj)] at e
      exact (r.slot j t e).mono st fun b z e1 e2 => hk b z (fun q => hj (r.inj j i a (by rw [e1, q]) ho)) e2
  · by_cases hj : j = i
    · subst hj
      rw [List.getElem?_set_self hi] at e1; cases e1
      exact r.free j s b hs e2 (by rw [← hl]; exact e3)
    · rw [List.getElem?_set_ne (Ne.symm hj)] at e1
      exact r.free j t b e1 e2 e3
def spRoll : Sp := fun vs H Q _ => ∃ a c0 c1 n, vs = [V.ref a, V.int n] ∧ H a = some (.lst [.int c0, .int c1]) ∧ 0 ≤ c0 ∧ 0 ≤ c1 ∧ c1 < 2 ^ 32 ∧ 0 < n ∧ n < 2 ^ 200 ∧
  ∀ (r d0 d1 : Int) (H' : Hp), 0 ≤ r → r < n → 0 ≤ d0 → 0 ≤ d1 → d1 < 2 ^ 32 → H' a = some (.lst [.int d0, .int d1]) → (∀ b x, b ≠ a → H b = some x → H' b = some x) → Q (.int r) H'
theorem TEr.rollR {i : Nat} {e : E} {Q : VK} {E' : XK} (h : TEr K C (.roll i e) σ H Q) : tCall spRoll [] E' (tCons (tVar i) (tCons (TEr K C e) tNil)) σ H Q := by
  obtain ⟨B, o, ρ, Kc, r, w, f⟩ := h
  rw [wpE] at w
  split at w
  · rename_i ho
    have cupAt : ∀ {ρ : Env}, isCup i ρ = true → ρ[i]? = some .cup := fun {ρ} ho => by
      unfold isCup at ho
      split at ho
      · assumption
      · cases ho
    obtain ⟨a, c0, c1, hv, hoa, hx, h0, h1, h2⟩ := r.cup (cupAt ho)
    refine ⟨.ref a, hv, B, o, ρ, _, r, w, fun o1 H1 ρ1 d v x1 r1 rv frx q => ?_⟩
    split at q
    · rename_i n hs1
      obtain ⟨a1, d0, d1, hv1, ho1, hx1, g0, g1, g2⟩ := r1.cup (cupAt hs1)
      rw [hv] at hv1; cases hv1
      cases rv
      simp only [Bool.and_eq_true, decide_eq_true_eq] at q
      obtain ⟨⟨q1, q2⟩, q3⟩ := q
      refine ⟨a, d0, d1, n, rfl, hx1, g0, g1, g2, q1, q2, fun k e0 e1 H3 k0 k1 k2 k3 k4 k5 k6 => ?_⟩
      obtain ⟨x2, r2⟩ := r1.change' (s' := .cup) (cupAt hs1) ho1 k5 k6 (.cup (c0 := e0) (c1 := e1) k2 k3 k4) rfl
      have hk := allB_iff.mp q3 k.toNat (by omega)
      rw [Int.toNat_of_nonneg k0] at hk
      rw [set_same (cupAt hs1)] at r2
      exact f _ _ _ _ _ (x1.trans x2) r2 (.int k) (fun z => by cases z) hk
    · cases q
  · cases w
end
end G
namespace G
open PySem PySem.Spec PyProof.Rows L2

/-- from one state of the frame to another; W: the slots that may be bound -/
structure Mv (W : Nat → Prop) (o : Nat → Option Addr) (σ : St) (H : Hp) (o' : Nat → Option Addr) (σ' : St) (H' : Hp) : Prop where
  ext : Ext W o H o' H'
  same : ∀ j, ¬ W j → σ'[j]? = σ[j]?
  len : σ'.length = σ.length
structure FinS (K : PySem.W.Frag) (B : Addr → Prop) (W : Nat → Prop) (o : Nat → Option Addr) (σ : St) (H : Hp) (k : Ks) (D : Ends) : Prop where
  nx : ∀ o' σ' H' ρ', Mv W o σ H o' σ' H' → Rep K B o' σ' H' ρ' → k.nx ρ' = true → D.nx σ' H'
  bk : ∀ o' σ' H' ρ', Mv W o σ H o' σ' H' → Rep K B o' σ' H' ρ' → k.bk ρ' = true → D.bk σ' H'
  ct : ∀ o' σ' H' ρ', Mv W o σ H o' σ' H' → Rep K B o' σ' H' ρ' → k.ct ρ' = true → D.ct σ' H'
  rt : ∀ o' σ' H' ρ' d v, Mv W o σ H o' σ' H' → Rep K B o' σ' H' ρ' → RV K (Av B o') H' d v → k.rt d ρ' = true → D.rt v H'
def TSr (K : PySem.W.Frag) (C : Handler) (N : Nat) (W : Nat → Prop) (s : S) : TS := fun D σ H => ∃ B o ρ k, Rep K B o σ H ρ ∧ wpS C N s ρ k = true ∧ (∀ j, j ∈ s.sets → W j) ∧ FinS K B W o σ H k D

section
variable {K : PySem.W.Frag} {B : Addr → Prop} {W W' : Nat → Prop} {o o1 o2 o' : Nat → Option Addr} {H H1 H2 H' : Hp} {σ σ1 σ2 σ' : St} {ρ ρ' : Env} {C : Handler} {N : Nat} {D : Ends} {k : Ks}
theorem Mv.refl : Mv W o σ H o σ H := ⟨.refl, fun _ _ => rfl, rfl⟩
theorem Mv.trans (a : Mv W o σ H o1 σ1 H1) (b : Mv W o1 σ1 H1 o2 σ2 H2) : Mv W o σ H o2 σ2 H2 := ⟨a.ext.trans b.ext, fun j h => (b.same j h).trans (a.same j h), b.len.trans a.len⟩
theorem Mv.of0 (a : Ext0 o H o1 H1) : Mv W o σ H o1 σ H1 := ⟨a.of0, fun _ _ => rfl, rfl⟩
theorem FinS.mv (f : FinS K B W o σ H k D) (m : Mv W o σ H o1 σ1 H1) : FinS K B W o1 σ1 H1 k D :=
  ⟨fun o' σ' H' ρ' a => f.nx _ _ _ _ (m.trans a), fun o' σ' H' ρ' a => f.bk _ _ _ _ (m.trans a), fun o' σ' H' ρ' a => f.ct _ _ _ _ (m.trans a), fun o' σ' H' ρ' d v a => f.rt _ _ _ _ _ _ (m.trans a)⟩

theorem TSr.skipR (h : TSr K C N W .skip D σ H) : tNext D σ H := by
  obtain ⟨B, o, ρ, k, r, w, _, f⟩ := h
  exact f.nx _ _ _ _ .refl r w
theorem TSr.brkR (h : TSr K C N W .brk D σ H) : tBreak D σ H := by
  obtain ⟨B, o, ρ, k, r, w, _, f⟩ := h
  exact f.bk _ _ _ _ .refl r w
theorem TSr.cntR (h : TSr K C N W .cnt D σ H) : tCont D σ H := by
  obtain ⟨B, o, ρ, k, r, w, _, f⟩ := h
  exact f.ct _ _ _ _ .refl r w
theorem TSr.stuckR (h : TSr K C N W .stuck D σ H) : tNever D σ H := by
  obtain ⟨B, o, ρ, k, r, w, _, f⟩ := h
  cases w
theorem TSr.seqR {a b : S} (h : TSr K C N W (.seq a b) D σ H) : tSeq (TSr K C N W a) (TSr K C N W b) D σ H := by
  obtain ⟨B, o, ρ, k, r, w, hs, f⟩ := h
  refine ⟨B, o, ρ, _, r, w, fun j hj => hs j (List.mem_append_left _ hj), ⟨fun o' σ' H' ρ' m r' q => ?_, f.bk, f.ct, f.rt⟩⟩
  exact ⟨B, o', ρ', k, r', q, fun j hj => hs j (List.mem_append_right _ hj), f.mv m⟩
theorem TSr.retR {e : E} (h : TSr K C N W (.ret e) D σ H) : tRet (TEr K C e) D σ H := by
  obtain ⟨B, o, ρ, k, r, w, hs, f⟩ := h
  exact ⟨B, o, ρ, _, r, w, fun o1 H1 ρ1 d v x1 r1 rv _ q => f.rt _ _ _ _ _ _ (.of0 x1) r1 rv q⟩
theorem TSr.retN (h : TSr K C N W (.ret (.cst .none)) D σ H) : tRetN D σ H := by
  have := TSr.retR h
  exact TEr.cst (v := .non) (fun A H => .non) this
theorem TSr.expR {e : E} (h : TSr K C N W (.exp e) D σ H) : tDrop (TEr K C e) D σ H := by
  obtain ⟨B, o, ρ, k, r, w, hs, f⟩ := h
  exact ⟨B, o, ρ, _, r, w, fun o1 H1 ρ1 d v x1 r1 rv _ q => f.nx _ _ _ _ (.of0 x1) r1 q⟩
theorem TSr.ifeR {c : E} {a b : S} (h : TSr K C N W (.ife c a b) D σ H) : tIfS (TTr K C c) (TSr K C N W a) (TSr K C N W b) D σ H := by
  obtain ⟨B, o, ρ, k, r, w, hs, f⟩ := h
  have e : (fun (v : AV) (ρ1 : Env) => match truthy v with | some true => wpS C N a ρ1 k | some false => wpS C N b ρ1 k | none => false) = tst fun t ρ => if t then wpS C N a ρ k else wpS C N b ρ k := tst_ife
  refine ⟨B, o, ρ, fun t ρ => if t then wpS C N a ρ k else wpS C N b ρ k, r, (congrArg (fun z => wpE C c ρ z = true) e).mp w, fun o1 H1 ρ1 t x1 r1 q => ?_⟩
  cases t with
  | true => exact ⟨B, o1, ρ1, k, r1, q, fun j hj => hs j (List.mem_append_left _ hj), f.mv (.of0 x1)⟩
  | false => exact ⟨B, o1, ρ1, k, r1, q, fun j hj => hs j (List.mem_append_right _ hj), f.mv (.of0 x1)⟩
theorem TSr.asgR {t : Tgt} {e : E} (h : TSr K C N W (.asg t e) D σ H) : tAsg (TEr K C e) (gSlots K t) D σ H := by
  obtain ⟨B, o, ρ, k, r, w, hs, f⟩ := h
  refine ⟨B, o, ρ, _, r, w, fun o1 H1 ρ1 d v x1 r1 rv _ q => ?_⟩
  cases ea : assign t d ρ1 with
  | none => rw [ea] at q; cases q
  | some ρ2 =>
    rw [ea] at q
    refine assign_ok r1 rv ea fun o2 σ2 x2 r2 h1 h2 _ => ?_
    exact f.nx _ _ _ _ ⟨(x1.trans x2).of0, fun j hj => h1 j fun z => hj (hs j z), h2⟩ r2 q
/-- a slot is bound to a new object of its own -/
theorem Rep.own {i : Nat} {s : Slot} {d : AV} (r : Rep K B o σ H ρ) (hi : i < ρ.length) (p : Addr) (x : HO) (nB : ¬ B p) (np : ∀ j, o j ≠ some p) (hx : H p = some x) (rb : Rep K (Bp B p) o σ H ρ) (c : Cont K (Av (Bp B p) o) H d x) (hs : ownOf d = some s) :
    Rep K B (fun j => if j = i then some p else o j) (σ.set i (some (.ref p))) H (ρ.set i s) := by
  have stb : ∀ b z, H b = some z → ¬ Av (Bp B p) o b → H b = some z ∧ ¬ Av B (fun j => if j = i then some p else o j) b := fun b z e n => ⟨e, fun y => by
    rcases y with y | ⟨j, y⟩
    · exact n (.inl (.inl y))
    · replace y : (if j = i then some p else o j) = some b := y
      split at y
      · cases y; exact n (.inl (.inr rfl))
      · exact n (.inr ⟨j, y⟩)⟩
  refine ⟨by rw [List.length_set, List.length_set]; exact r.len, fun j t e => ?_, fun j hj => ?_, fun a b q h1 h2 => ?_, r.low, fun j t a e1 e2 e3 => ?_⟩
  · by_cases h : j = i
    · subst h
      rw [List.getElem?_set_self hi] at e; cases e
      rw [List.getElem?_set_self (by rw [← r.len]; exact hi)]
      show SlotR K _ H s _ (if j = j then some p else o j)
      rw [if_pos rfl]
      refine .own hx ?_
      have c' := c.mono stb
      cases c' with
      | lst rs => cases hs; exact .lst rs
      | tup rs => cases hs
      | dK rs => cases hs; exact .dK rs
      | dT rs => cases hs; exact .dT rs
    · rw [List.getElem?_set_ne (Ne.symm h)] at e
      rw [List.getElem?_set_ne (Ne.symm h)]
      show SlotR K _ H t _ (if j = i then some p else o j)
      rw [if_neg h]
      exact (rb.slot j t e).mono stb fun _ _ _ e => e
  · rw [List.length_set] at hj
    show (if j = i then some p else o j) = none
    rw [if_neg (by omega)]
    exact r.out j hj
  · replace h1 : (if a = i then some p else o a) = some q := h1
    replace h2 : (if b = i then some p else o b) = some q := h2
    split at h1 <;> split at h2
    · omega
    · cases h1; exact absurd h2 (np _)
    · cases h2; exact absurd h1 (np _)
    · exact r.inj a b q h1 h2
  · replace e2 : (if j = i then some p else o j) = some a := e2
    split at e2
    · cases e2
      exact nB
    · rename_i h
      rw [List.getElem?_set_ne (Ne.symm h)] at e1
      exact r.free j t a e1 e2 e3
end
end G
namespace G
open PySem PySem.Spec PyProof.Rows L2

section
variable {K : PySem.W.Frag} {B : Addr → Prop} {W W' : Nat → Prop} {o o1 o2 o' : Nat → Option Addr} {H H1 H2 H' : Hp} {σ σ1 σ2 σ' : St} {ρ ρ' : Env} {C : Handler} {N : Nat} {D : Ends} {k : Ks}
def putO (o : Nat → Option Addr) (i : Nat) (p : Addr) : Nat → Option Addr := fun j => if j = i then some p else o j
theorem TSr.ownR {i : Nat} {e : E} (h : TSr K C N W (.own i e) D σ H) : tAsg (TEr K C e) (gName i) D σ H := by
  obtain ⟨B, o, ρ, k, r, w, hs, f⟩ := h
  rw [wpS] at w
  split at w
  · rename_i he
    refine ⟨B, o, ρ, _, r, w, fun o1 H1 ρ1 d v x1 r1 rv fr q => ?_⟩
    cases hw : ownOf d with
    | none => rw [hw] at q; cases q
    | some s =>
      rw [hw] at q
      simp only at q
      split at q
      · rename_i hi
        obtain ⟨p, x, rfl, hp, np, hx, rb, c⟩ := fr he
        have r2 := r1.own hi p x (fun z => r.low p z hp) np hx rb c hw
        refine f.nx _ _ _ _ ⟨⟨fun a y e n => x1.keep a y e n, x1.there, fun j a e => ?_⟩, fun j hj => ?_, List.length_set ..⟩ r2 q
        · replace e : (if j = i then some p else o1 j) = some a := e
          split at e
          · cases e
            rename_i hj
            exact .inr ⟨hs j (by rw [hj]; exact List.mem_singleton.mpr rfl), hp⟩
          · rcases x1.own j a e with z | ⟨z, _⟩
            · exact .inl z
            · exact z.elim
        · exact List.getElem?_set_ne fun z => hj (hs j (by rw [← z]; exact List.mem_singleton.mpr rfl))
      · cases q
  · cases w

/-! ### a, b, .. = x, y, .. -/
def UB (B : Addr → Prop) (ps : List Addr) : Addr → Prop := fun a => B a ∨ a ∈ ps
theorem UB_nil : UB B [] = B := by funext a; apply propext; simp [UB]
theorem UB_cons {p : Addr} {ps : List Addr} : UB B (p :: ps) = Bp (UB B ps) p := by
  funext a; apply propext
  simp only [UB, Bp, List.mem_cons]
  constructor
  · rintro (h | h | h)
    · exact .inl (.inl h)
    · exact .inr h
    · exact .inl (.inr h)
  · rintro ((h | h) | h)
    · exact .inl h
    · exact .inr (.inr h)
    · exact .inr (.inl h)
theorem UB_bp {p : Addr} {ps : List Addr} : UB (Bp B p) ps = UB B (p :: ps) := by
  funext a; apply propext
  simp only [UB, Bp, List.mem_cons, or_assoc]
/-- the values of a display whose flagged items are new objects of their own -/
inductive NewR (K : PySem.W.Frag) (A : Addr → Prop) (o : Nat → Option Addr) (H0 H : Hp) : List Bool → List AV → List V → List Addr → Prop
  | nil : NewR K A o H0 H [] [] [] []
  | val {d : AV} {v : V} {fs : List Bool} {ds : List AV} {vs : List V} {ps : List Addr} : RV K A H d v → NewR K A o H0 H fs ds vs ps → NewR K A o H0 H (false :: fs) (d :: ds) (v :: vs) ps
  | own {d : AV} {p : Addr} {x : HO} {fs : List Bool} {ds : List AV} {vs : List V} {ps : List Addr} : H0 p = none → H p = some x → Cont K A H d x → p ∉ ps → (∀ j, o j ≠ some p) → NewR K A o H0 H fs ds vs ps → NewR K A o H0 H (true :: fs) (d :: ds) (.ref p :: vs) (p :: ps)
theorem NewR.h0 {A : Addr → Prop} {H0 H0' : Hp} (h : ∀ a, H0' a ≠ none → H0 a ≠ none) {fs : List Bool} {ds : List AV} {vs : List V} {ps : List Addr} (n : NewR K A o H0 H fs ds vs ps) : NewR K A o H0' H fs ds vs ps := by
  induction n with
  | nil => exact .nil
  | val r _ ih => exact .val r ih
  | own h1 h2 h3 h4 h5 _ ih => exact .own (Classical.byContradiction fun z => h _ z h1) h2 h3 h4 h5 ih
theorem NewR.none {A : Addr → Prop} {H0 : Hp} {fs : List Bool} {ds : List AV} {vs : List V} {ps : List Addr} (n : NewR K A o H0 H fs ds vs ps) : ∀ p ∈ ps, H0 p = none := by
  induction n with
  | nil => intro p hp; cases hp
  | val r _ ih => exact ih
  | own h1 h2 h3 h4 h5 _ ih =>
    intro p hp
    rcases List.mem_cons.mp hp with hp | hp
    · rw [hp]; exact h1
    · exact ih p hp
/-- items flagged as own -/
def TPr (K : PySem.W.Frag) (C : Handler) (fs : List Bool) (es : Es) : TA := fun σ H Q => ∃ B o ρ Kc, Rep K B o σ H ρ ∧ wpEs C false es ρ Kc = true ∧ fs.length = es.freshAt.length ∧ ((fs.zip es.freshAt).all fun p => !p.1 || p.2) = true ∧
  ∀ o' H' ρ' ds vs ps, Ext0 o H o' H' → Rep K (UB B ps) o' σ H' ρ' → NewR K (Av (UB B ps) o') o' H H' fs ds vs ps → Kc ds ρ' = true → Q vs H'
theorem TPr.nil {fs : List Bool} {Q : List V → Hp → Prop} (h : TPr K C fs .nil σ H Q) : Q [] H := by
  obtain ⟨B, o, ρ, Kc, r, w, hl, _, f⟩ := h
  cases fs with
  | cons _ _ => simp [Es.freshAt] at hl
  | nil => exact f _ _ _ _ _ [] .refl (by rw [UB_nil]; exact r) .nil w
theorem TPr.cons {fs : List Bool} {e : E} {es : Es} {Q : List V → Hp → Prop} (h : TPr K C fs (.cons e es) σ H Q) : TEr K C e σ H fun x H1 => TPr K C fs.tail es σ H1 fun xs H2 => Q (x :: xs) H2 := by
  obtain ⟨B, o, ρ, Kc, r, w, hl, hf, f⟩ := h
  cases fs with
  | nil => simp [Es.freshAt] at hl
  | cons b fs =>
    simp only [Es.freshAt, List.length_cons, List.zip_cons_cons, List.all_cons, Bool.and_eq_true, Nat.add_right_cancel_iff] at hl hf
    refine ⟨B, o, ρ, _, r, w, fun o1 H1 ρ1 d v x1 r1 rv fr q => ?_⟩
    cases b with
    | false =>
      refine ⟨B, o1, ρ1, _, r1, q, hl, hf.2, fun o2 H2 ρ2 ds vs ps x2 r2 nr q2 => ?_⟩
      refine f _ _ _ _ _ ps (x1.trans x2) r2 (.val (rv.mono fun b x e n => ⟨(x2.stay b x e n).1, fun z => ?_⟩) (nr.h0 x1.there)) q2
      rcases z with (z | z) | z
      · exact (x2.stay b x e n).2 (.inl z)
      · have := nr.none b z; rw [e] at this; cases this
      · exact (x2.stay b x e n).2 (.inr z)
    | true =>
      have he : e.fresh = true := by simpa using hf.1
      obtain ⟨p, x, rfl, hp, np, hx, rb, c⟩ := fr he
      refine ⟨Bp B p, o1, ρ1, _, rb, q, hl, hf.2, fun o2 H2 ρ2 ds vs ps x2 r2 nr q2 => ?_⟩
      rw [UB_bp] at r2 nr
      have hx2 : H2 p = some x := x2.keep p x hx np
      have np2 : ∀ j, o2 j ≠ some p := fun j z => by
        rcases x2.own j p z with z | ⟨z, _⟩
        · exact np j z
        · exact z.elim
      have pn : p ∉ ps := fun z => by have := nr.none p z; rw [hx] at this; cases this
      have c2 : Cont K (Av (UB B (p :: ps)) o2) H2 _ x := c.mono fun b y e n => ⟨(x2.stay b y e n).1, fun z => by
        rcases z with z | z
        · rw [← UB_bp] at z
          rcases z with z | z
          · exact n (.inl z)
          · have := nr.none b z; rw [e] at this; cases this
        · exact (x2.stay b y e n).2 (.inr z)⟩
      exact f _ _ _ _ _ (p :: ps) (x1.trans x2) r2 (.own hp hx2 c2 pn np2 (nr.h0 x1.there)) q2

theorem NewR.mono {A A' : Addr → Prop} {H0 : Hp} {fs : List Bool} {ds : List AV} {vs : List V} {ps : List Addr} (n : NewR K A o H0 H fs ds vs ps) (hm : ∀ b x, H b = some x → ¬ A b → ¬ A' b) (ho : ∀ p ∈ ps, ∀ j, o' j ≠ some p) : NewR K A' o' H0 H fs ds vs ps := by
  induction n with
  | nil => exact .nil
  | val r _ ih => exact .val (r.mono fun b x e n => ⟨e, hm b x e n⟩) (ih ho)
  | own h1 h2 h3 h4 h5 _ ih => exact .own h1 h2 (h3.mono fun b x e n => ⟨e, hm b x e n⟩) h4 (ho _ List.mem_cons_self) (ih fun p hp => ho p (List.mem_cons_of_mem _ hp))
theorem NewR.noO {A : Addr → Prop} {H0 : Hp} {fs : List Bool} {ds : List AV} {vs : List V} {ps : List Addr} (n : NewR K A o H0 H fs ds vs ps) : ∀ q ∈ ps, ∀ j, o j ≠ some q := by
  induction n with
  | nil => intro q hq; cases hq
  | val _ _ ih => exact ih
  | own _ _ _ _ h5 _ ih =>
    intro q hq
    rcases List.mem_cons.mp hq with hq | hq
    · rw [hq]; exact h5
    · exact ih q hq
theorem setPar_ok {H0 : Hp} : ∀ {is : List (Nat × Bool)} {ds : List AV} {vs : List V} {ps : List Addr} {ρ ρ' : Env} {σ : St} {o : Nat → Option Addr}, Rep K (UB B ps) o σ H ρ → NewR K (Av (UB B ps) o) o H0 H (is.map (·.2)) ds vs ps → setPar is ds ρ = some ρ' → (∀ a, B a → H0 a ≠ none) →
    is.length = vs.length ∧ ∃ o', (∀ j a, o' j = some a → o j = some a ∨ (j ∈ is.map (·.1) ∧ H0 a = none)) ∧ Rep K B o' (((is.map (·.1)).zip vs).foldl (fun σ p => σ.set p.1 (some p.2)) σ) H ρ'
  | [], [], _, _, ρ, ρ', σ, o, r, n, e, low => by
    cases n
    cases e
    rw [UB_nil] at r
    exact ⟨rfl, o, fun j a h => .inl h, r⟩
  | [], _ :: _, _, _, _, _, _, _, _, n, e, _ => by cases e
  | _ :: _, [], _, _, _, _, _, _, _, n, e, _ => by cases e
  | (i, true) :: is, d :: ds, _, _, ρ, ρ', σ, o, r, n, e, low => by
    cases n with
    | @own _ p x _ _ vs ps h1 h2 h3 h4 h5 n =>
      rw [setPar] at e
      split at e
      · rename_i hi
        rw [if_pos rfl] at e
        cases hw : ownOf d with
        | none => rw [hw] at e; cases e
        | some s =>
          rw [hw] at e
          simp only [Option.bind_some] at e
          rw [UB_cons] at r
          rw [UB_cons] at h3 n
          have nB : ¬ UB B ps p := fun z => z.elim (fun z => low p z h1) h4
          have r2 := Rep.own (i := i) r.unBp hi p x nB h5 h2 r h3 hw
          have hno : ∀ q ∈ ps, ∀ j, (if j = i then some p else o j) ≠ some q := fun q hq j z => by
            split at z
            · cases z; exact h4 hq
            · exact n.noO q hq j z
          obtain ⟨e1, o2, e2, e3⟩ := setPar_ok (is := is) r2 (n.mono (o' := fun j => if j = i then some p else o j) (fun b y e n => fun z => by
              rcases z with z | ⟨j, z⟩
              · exact n (.inl (.inl z))
              · replace z : (if j = i then some p else o j) = some b := z
                split at z
                · cases z; exact n (.inl (.inr rfl))
                · exact n (.inr ⟨j, z⟩)) hno) e low
          · refine ⟨by simp [e1], o2, fun j a h => ?_, e3⟩
            rcases e2 j a h with z | ⟨z, z2⟩
            · replace z : (if j = i then some p else o j) = some a := z
              split at z
              · cases z
                rename_i hj
                exact .inr ⟨by rw [hj]; exact List.mem_cons_self, h1⟩
              · exact .inl z
            · exact .inr ⟨List.mem_cons_of_mem _ z, z2⟩
      · cases e
  | (i, false) :: is, d :: ds, _, ps, ρ, ρ', σ, o, r, n, e, low => by
    cases n with
    | val rv n =>
      rw [setPar] at e
      split at e
      · rename_i hi
        rw [if_neg (by simp)] at e
        have r2 := r.bind hi rv
        obtain ⟨e1, o2, e2, e3⟩ := setPar_ok (is := is) r2 (n.mono (o' := drop o i) (fun b y e n => fun z => by
              rcases z with z | ⟨j, z⟩
              · exact n (.inl z)
              · exact n (.inr ⟨j, drop_le z⟩)) (fun q hq j z => n.noO q hq j (drop_le z))) e low
        · refine ⟨by simp [e1], o2, fun j a h => ?_, e3⟩
          rcases e2 j a h with z | ⟨z, z2⟩
          · exact .inl (drop_le z)
          · exact .inr ⟨List.mem_cons_of_mem _ z, z2⟩
      · cases e
theorem foldl_set {l : List (Nat × V)} : ∀ {σ : St} {j : Nat}, (∀ p, p ∈ l → p.1 ≠ j) → (l.foldl (fun σ p => σ.set p.1 (some p.2)) σ)[j]? = σ[j]? := by
  induction l with
  | nil => intro σ j _; rfl
  | cons p z ih =>
    intro σ j hz'
    rw [List.foldl_cons, ih (fun q hq => hz' q (List.mem_cons_of_mem _ hq)), List.getElem?_set_ne (hz' p List.mem_cons_self)]
theorem foldl_set_len {l : List (Nat × V)} : ∀ {σ : St}, (l.foldl (fun σ p => σ.set p.1 (some p.2)) σ).length = σ.length := by
  induction l with
  | nil => intro σ; rfl
  | cons p z ih => intro σ; rw [List.foldl_cons, ih, List.length_set]
theorem TSr.parR {is : List (Nat × Bool)} {es : Es} (h : TSr K C N W (.par is es) D σ H) :
    TPr K C (is.map (·.2)) es σ H fun vs H1 => (is.map (·.1)).Nodup ∧ is.length = vs.length ∧ vs.length ≤ sizeLine ∧ D.nx (((is.map (·.1)).zip vs).foldl (fun σ p => σ.set p.1 (some p.2)) σ) H1 ∧
      ∀ p, H1 p = none → D.nx (((is.map (·.1)).zip vs).foldl (fun σ p => σ.set p.1 (some p.2)) σ) (upd H1 p (.tup vs)) := by
  obtain ⟨B, o, ρ, k, r, w, hs, f⟩ := h
  rw [wpS] at w
  split at w
  · rename_i hp
    unfold parOk at hp
    simp only [Bool.and_eq_true, decide_eq_true_eq] at hp
    obtain ⟨⟨p1, p2⟩, p3, p4⟩ := hp
    refine ⟨B, o, ρ, _, r, w, by rw [List.length_map]; exact p2, ?_, fun o1 H1 ρ1 ds vs ps x1 r1 nr q => ?_⟩
    · rw [List.all_eq_true] at p1 ⊢
      intro p hp
      rw [List.zip_map_left] at hp
      obtain ⟨q, hq, rfl⟩ := List.mem_map.mp hp
      exact p1 q hq
    · cases es2 : setPar is ds ρ1 with
      | none => rw [es2] at q; cases q
      | some ρ2 =>
        rw [es2] at q
        obtain ⟨e1, o2, e2, e3⟩ := setPar_ok r1 nr es2 r.low
        have m : Mv W o σ H o2 (((is.map (·.1)).zip vs).foldl (fun σ p => σ.set p.1 (some p.2)) σ) H1 := by
          refine ⟨⟨x1.keep, x1.there, fun j a e => ?_⟩, fun j hj => foldl_set fun p hp z => hj (hs j ?_), foldl_set_len⟩
          · rcases e2 j a e with z | ⟨z, z2⟩
            · rcases x1.own j a z with z | ⟨z, _⟩
              · exact .inl z
              · exact z.elim
            · exact .inr ⟨hs j z, z2⟩
          · rw [← z]
            exact (List.of_mem_zip hp).1
        refine ⟨p3, e1, by rw [← e1, sizeLine_eq]; omega, f.nx _ _ _ _ m e3 q, fun p hp => f.nx _ _ _ _ (m.trans ⟨Ext.laid hp, fun _ _ => rfl, rfl⟩) (e3.laid hp).unBp q⟩
  · cases w
end
end G
namespace G
open PySem PySem.Spec PyProof.Rows L2

section
variable {K : PySem.W.Frag} {B : Addr → Prop} {W W' : Nat → Prop} {o o1 o2 o' : Nat → Option Addr} {H H1 H2 H' : Hp} {σ σ1 σ2 σ' : St} {ρ ρ' : Env} {C : Handler} {N : Nat} {D : Ends} {k : Ks}
theorem isOl_iff {i : Nat} {ρ : Env} (h : isOl i ρ = true) : ∃ l xs, ρ[i]? = some (.olst l xs) := by
  unfold isOl at h
  split at h
  · rename_i l xs e; exact ⟨l, xs, e⟩
  · cases h
theorem TSr.appR {i : Nat} {e : E} (h : TSr K C N W (.app i e) D σ H) : tDrop (tBM K "list" rAppend (tVar i) (tCons (TEr K C e) tNil)) D σ H := by
  obtain ⟨B, o, ρ, k, r, w, hs, f⟩ := h
  rw [wpS] at w
  split at w
  · rename_i ho
    obtain ⟨l0, ds0, h0⟩ := isOl_iff ho
    obtain ⟨a, xs, hv, hoa, hx, rs⟩ := r.olst h0
    refine ⟨.ref a, hv, .inl ⟨rfl, _, .inl (.inl hx)⟩, B, o, ρ, _, r, w, fun o1 H1 ρ1 d v x1 r1 rv _ q => ?_⟩
    split at q
    · rename_i l1 ds1 h1
      split at q
      · rename_i hz
        obtain ⟨a1, xs1, hv1, ho1, hx1, rs1⟩ := r1.olst h1
        rw [hv] at hv1; cases hv1
        obtain ⟨x2, r2⟩ := r1.change (s' := .olst l1 (ds1 ++ [d])) h1 ho1 hx1 (.lst (rs1.append (.cons rv .nil))) rfl
        exact ⟨a, xs1, v, rfl, rfl, hx1, by rw [← rs1.length, sizeLine_eq]; exact hz, f.nx _ _ _ _ (.of0 (x1.trans x2)) r2 q⟩
      · cases q
    · cases q
  · cases w

/-! ### x[k] = v -/
def rPutR : V → V → V → Hp → (Hp → Prop) → Prop := fun x y v H Q => rSetL x y v H Q ∨ ∃ a H4, x = .ref a ∧ DPut H a y v H4 ∧ Q H4
theorem ps_putR {X : Cx} {o i value : Expr} {pos' pos : Pos} {td ty tv : TE} (hu : X.A.units + 1 < cLine) (ho : PE X o td) (hi : PE X i ty) (hv : PE X value tv) (hs : swapsWith value (some (.Subscript o i pos')) pos.line X.env = pure false) :
    PS X (.Assign [.Subscript o i pos'] value pos) (fun D σ H => tv σ H fun v H1 => td σ H1 fun x H2 => ty σ H2 fun y H3 => rPutR x y v H3 fun H4 => D.nx σ H4) := by
  refine ⟨fun pins s σ H D I h => ?_⟩
  refine wpAny_Assign_Subscript (thn (hv.run pins s σ H _ I h) fun r s1 ⟨v, H1, I1, rv, q1⟩ => thn (ho.run pins s1 σ H1 _ I1 q1) fun u s2 ⟨x, H2, I2, rx, q2⟩ => thn (hi.run pins s2 σ H2 _ I2 q2) fun iv s3 ⟨y, H3, I3, ry, q3⟩ => ?_) hs
  rcases q3 with q3 | ⟨a, H4, ex, g, q3⟩
  · exact thn (set_list pins s3 σ H3 x y v u iv r _ I3 rx ry rv q3) fun _ s4 ⟨H4, I4, q4⟩ => ⟨σ, H4, I4, q4⟩
  · subst ex
    obtain rfl : u = Value.ref a := rx
    exact d_setItem hu I3 g ry rv fun s4 I4 => ⟨σ, H4, I4, q3⟩
theorem Rep.odct {i : Nat} {l : Bool} {t : Nat} {ds : List (AV × AV)} (r : Rep K B o σ H ρ) (hs : ρ[i]? = some (.odct l t ds)) :
    ∃ a x, σ[i]? = some (some (.ref a)) ∧ o i = some a ∧ H a = some x ∧ OwnC K (Av B o) H (.odct l t ds) x := by
  have q := r.slot i _ hs
  generalize hsv : σ[i]? = sv at q
  generalize hoa : o i = oa at q
  cases q with
  | own e c => exact ⟨_, _, rfl, rfl, e, c⟩
theorem TSr.putR {i : Nat} {ke e : E} (h : TSr K C N W (.put i ke e) D σ H) : TEr K C e σ H fun v H1 => tVar i σ H1 fun x H2 => TEr K C ke σ H2 fun y H3 => rPutR x y v H3 fun H4 => D.nx σ H4 := by
  obtain ⟨B, o, ρ, k, r, w, hs, f⟩ := h
  rw [wpS] at w
  split at w
  · rename_i hp
    cases hp0 : peek i ρ with
    | none => rw [hp0] at hp; cases hp
    | some d0 =>
      obtain ⟨x0, hv0, _⟩ := r.peeked hp0
      refine ⟨B, o, ρ, _, r, w, fun o1 H1 ρ1 d v x1 r1 rv _ q => ⟨x0, hv0, B, o1, ρ1, _, r1, q, fun o2 H2 ρ2 kd y x2 r2 rk fr q2 => ?_⟩⟩
      have rv2 := x2.rv rv
      split at q2
      · rename_i l1 ds1 j h1
        obtain ⟨a1, xs1, hv1, ho1, hx1, rs1⟩ := r2.olst h1
        rw [hv0] at hv1; cases hv1
        split at q2
        · rename_i n hn
          cases rk
          obtain ⟨x3, r3⟩ := r2.change (s' := .olst l1 (ds1.set n d)) h1 ho1 hx1 (.lst (rs1.set rv2 n)) rfl
          rw [rs1.length] at hn
          exact .inl ⟨a1, xs1, j, n, rfl, rfl, hx1, hn, f.nx _ _ _ _ (.of0 ((x1.trans x2).trans x3)) r3 q2⟩
        · cases q2
      · rename_i l1 t1 ds1 h1
        split at q2
        · rename_i hc
          simp only [Bool.and_eq_true, Bool.or_eq_true, decide_eq_true_eq] at hc
          obtain ⟨⟨hk, hf⟩, hz⟩ := hc
          obtain ⟨a1, x, hv1, ho1, hx1, oc⟩ := r2.odct h1
          rw [hv0] at hv1; cases hv1
          cases oc with
          | @dK _ kvs _ rk' =>
            obtain ⟨kk, rfl⟩ := flatKey_iff hk
            obtain rfl := rk.key
            obtain ⟨x3, r3⟩ := r2.change (s' := .odct l1 0 (putD (keyV kk) d ds1)) h1 ho1 hx1 (.dK (rk'.put rv2)) rfl
            exact .inr ⟨a1, _, rfl, DPut.k hx1 (by rw [← rk'.length, sizeLine_eq]; exact hz), f.nx _ _ _ _ (.of0 ((x1.trans x2).trans x3)) r3 q2⟩
          | @dT _ kvs _ rk' =>
            have hf' : ke.fresh = true := by
              rcases hf with hf | hf
              · cases hf
              · exact hf
            obtain ⟨p, x, rfl, hp, np, hx, rb, c⟩ := fr hf'
            cases c with
            | tup rs =>
              obtain ⟨kk, rfl⟩ := flatKeys_iff (show List.all _ flatKey = true from hk)
              have := rs.keys
              subst this
              obtain ⟨x3, r3⟩ := r2.change (s' := .odct l1 1 (putD (.tuple (kk.map keyV)) d ds1)) h1 ho1 hx1 (.dT (rk'.put rv2)) rfl
              have hlen : ∀ {ds : List (AV × AV)} {kvs : List (List Key × V)}, RT K (Av B o2) H2 ds kvs → ds.length = kvs.length := by
                intro ds
                induction ds with
                | nil => intro kvs h; cases h; rfl
                | cons d ds ih => intro kvs h; cases h with
                  | cons a b => simp [ih b]
              exact .inr ⟨a1, _, rfl, DPut.t hx1 hx (by rw [← hlen rk', sizeLine_eq]; exact hz), f.nx _ _ _ _ (.of0 ((x1.trans x2).trans x3)) r3 q2⟩
            | _ => cases hk
        · cases q2
      · cases q2
  · cases w

/-! ### loops -/
theorem TSr.whlR {c : E} {b : S} (h : TSr K C N W (.whl c b) D σ H) : tWhile (TTr K C c) (TSr K C N W b) D σ H := by
  obtain ⟨B, o, ρ, k, r, w, hs, f⟩ := h
  rw [wpS] at w
  refine ⟨fun m σ1 H1 => ∃ o1 ρ1, Mv W o σ H o1 σ1 H1 ∧ Rep K B o1 σ1 H1 ρ1 ∧ whileN (fun ρ K => wpE C c ρ (tst K)) (fun ρ D => wpS C N b ρ D) k m ρ1 = true, ⟨N, o, ρ, .refl, r, w⟩, ?_⟩
  rintro m σ1 H1 ⟨o1, ρ1, m1, r1, w1⟩
  cases m with
  | zero => cases w1
  | succ m =>
    rw [whileN] at w1
    refine ⟨B, o1, ρ1, _, r1, w1, fun o2 H2 ρ2 t x2 r2 q => ?_⟩
    have m2 : Mv W o σ H o2 σ1 H2 := m1.trans (.of0 x2)
    cases t with
    | false => exact f.nx _ _ _ _ m2 r2 q
    | true =>
      refine ⟨fun σ' H' => ∃ o' ρ', Mv W o σ H o' σ' H' ∧ Rep K B o' σ' H' ρ' ∧ whileN (fun ρ K => wpE C c ρ (tst K)) (fun ρ D => wpS C N b ρ D) k m ρ' = true, fun σ' H' h => ⟨m, Nat.lt_succ_self m, h⟩, ?_⟩
      refine ⟨B, o2, ρ2, _, r2, q, hs, ⟨fun o' σ' H' ρ' a r q => ⟨o', ρ', m2.trans a, r, q⟩, fun o' σ' H' ρ' a r q => f.nx _ _ _ _ (m2.trans a) r q, fun o' σ' H' ρ' a r q => ⟨o', ρ', m2.trans a, r, q⟩, fun o' σ' H' ρ' d v a r rv q => f.rt _ _ _ _ _ _ (m2.trans a) r rv q⟩⟩
theorem TSr.forR {sk : SrcK} {es : Es} {t : Tgt} {b : S} {WR : List V → Hp → (It → Hp → Prop) → Prop} (hsrc : SrcOk K sk WR) (h : TSr K C N W (.for_ sk es t b) D σ H) :
    tFor (fun σ H R => TAr K C false es σ H fun vs H1 => WR vs H1 R) (gSlots K t) (TSr K C N W b) D σ H := by
  obtain ⟨B, o, ρ, k, r, w, hs, f⟩ := h
  rw [wpS] at w
  refine ⟨B, o, ρ, _, r, w, fun o1 H1 ρ1 ds vs x1 r1 ra q => ?_⟩
  cases hi : srcS sk ds with
  | none => rw [hi] at q; cases q
  | some items =>
    rw [hi] at q
    simp only at q
    refine hsrc _ _ _ _ _ _ ra hi fun J P wk p1 => ?_
    refine ⟨fun i m σ' H' => m = items.length - i ∧ i ≤ items.length ∧ ∃ o' ρ', Mv W o1 σ H1 o' σ' H' ∧ Rep K B o' σ' H' ρ' ∧ forN (assign t) (fun ρ D => wpS C N b ρ D) k (items.drop i) ρ' = true, ⟨items.length, rfl, Nat.zero_le _, o1, ρ1, .refl, r1, by simpa using q⟩, ?_⟩
    rintro i m σ2 H2 ⟨rfl, hle, o2, ρ2, m2, r2, w2⟩
    have p2 : P (Av B o2) H2 := wk.mono _ _ _ _ p1 m2.ext.stay
    have m02 : Mv W o σ H o2 σ2 H2 := (Mv.of0 x1).trans m2
    by_cases hlt : i < items.length
    · refine .inr ⟨wk.go _ _ _ p2 hlt, fun σ' H' => ∃ o' ρ', Mv W o1 σ H1 o' σ' H' ∧ Rep K B o' σ' H' ρ' ∧ forN (assign t) (fun ρ D => wpS C N b ρ D) k (items.drop (i + 1)) ρ' = true, fun σ' H' h => ⟨items.length - (i + 1), by omega, rfl, hlt, h⟩, fun x H3 y => ?_⟩
      obtain ⟨d, hd, post⟩ := wk.yld _ _ _ _ _ p2 hlt y
      obtain ⟨x3, r3, rv3, _⟩ := prim_step r2 post
      have hdrop : items.drop i = d :: items.drop (i + 1) := by
        rw [List.drop_eq_getElem_cons hlt]
        have : items[i] = d := by
          have := List.getElem?_eq_getElem hlt
          rw [this] at hd; exact Option.some.inj hd
        rw [this]
      rw [hdrop, forN] at w2
      cases ea : assign t d ρ2 with
      | none => rw [ea] at w2; cases w2
      | some ρ3 =>
        rw [ea] at w2
        refine assign_ok r3 rv3 ea fun o4 σ4 x4 r4 h1 h2 _ => ?_
        have m4 : Mv W o2 σ2 H2 o4 σ4 H3 := ⟨(x3.trans x4).of0, fun j hj => h1 j fun z => hj (hs j (List.mem_append_left _ z)), h2⟩
        refine ⟨B, o4, ρ3, _, r4, w2, fun j hj => hs j (List.mem_append_right _ hj), ⟨fun o' σ' H' ρ' a r q => ⟨o', ρ', m2.trans (m4.trans a), r, q⟩, fun o' σ' H' ρ' a r q => f.nx _ _ _ _ (m02.trans (m4.trans a)) r q, fun o' σ' H' ρ' a r q => ⟨o', ρ', m2.trans (m4.trans a), r, q⟩, fun o' σ' H' ρ' d v a r rv q => f.rt _ _ _ _ _ _ (m02.trans (m4.trans a)) r rv q⟩⟩
    · have e : i = items.length := by omega
      subst e
      refine .inl ⟨wk.stop _ _ p2, ?_⟩
      rw [List.drop_length, forN] at w2
      exact f.nx _ _ _ _ m02 r2 w2
end

end G
namespace G
open PySem PySem.Spec PyProof.Rows L2

/-! ### from the text to the evaluator's terms: names, tables -/
structure CEnv where
  vals : List (Str × AV)
  funs : List (Str × (Nat × List Nat))
  roll : Option Str
structure Fr where
  N : List Str
  own : List Nat
  k1 : List Nat
def ixOf : List Str → Str → Option Nat
  | [], _ => none
  | y :: r, x => if y = x then some 0 else (ixOf r x).map (· + 1)
theorem ixOf_at : ∀ {N : List Str} {x : Str} {i : Nat}, ixOf N x = some i → N[i]? = some x
  | [], _, _, h => by cases h
  | y :: r, x, i, h => by
    unfold ixOf at h
    split at h
    · rename_i e; cases h; simp [e]
    · cases q : ixOf r x with
      | none => rw [q] at h; cases h
      | some j => rw [q] at h; cases h; simpa using ixOf_at q
def isVis (sc : Scope) (x : Str) : Bool := match sc.names.lookup x with
  | some .local => true
  | some .cell => true
  | some .free => true
  | _ => false
def isLoc (sc rs : Scope) (x : Str) : Bool := match sc.names.lookup x with
  | some .local => true
  | some .cell => decide (rs.names.lookup x = some .cell)
  | _ => false
def isGl (sc : Scope) (x : Str) : Bool := match sc.names.lookup x with
  | some .globalImplicit => true
  | _ => false
def plainName (x : Str) : Bool := !(x == ("__debug__" : Str)) && !(x == ("__classdict__" : Str)) && !decide (x = ("__name__" : Str))
def slotOf (F : Fr) (sc : Scope) (x : Str) : Option Nat := if isVis sc x && plainName x then ixOf F.N x else none
def nst : Expr → Bool
  | .Starred .. => false
  | _ => true
def binP : Operator → Option Prim
  | .Add => some .add
  | .Sub => some .sub
  | .Mult => some .mul
  | .FloorDiv => some .fdiv
  | .Mod => some .mod
  | .Pow => some .pow
  | .BitXor => some .xor
  | .BitAnd => some .band
  | .BitOr => some .bor
  | .LShift => some .shl
  | .RShift => some .shr
  | _ => none
def cmpP : CmpOp → Option Prim
  | .Eq => some .eq
  | .NotEq => some .ne
  | .Lt => some .lt
  | .LtE => some .le
  | .Gt => some .gt
  | .GtE => some .ge
  | .In => some .isin
  | .NotIn => some .notin
  | _ => none

/-- what the frame of a def (or of a comprehension in it) must be -/
structure Callee (P : Program) (w : World) (K : PySem.W.Frag) (mg : Str → Option Value) (base : Heap) (A : Around) (x : Str) (sp : Sp) : Prop where
  ex : ∃ k f fd ps, FnOk P w K mg base CX0 k f fd ps sp ∧ Room k A ∧ mg x = some (.ref f) ∧ PySem.W.keepIn K (.ref f) = true ∧ Binds K fd ps []
def bltNames : List Str := ["len", "abs", "sum", "all", "any", "sorted", "max", "min", "isinstance", "int", "tuple", "list", "dict", "range", "set", "enumerate", "zip", "bool", "str"]
/-- what the module's tables promise -/
structure TabOk (G : CEnv) (C : Handler) (P : Program) (w : World) (K : PySem.W.Frag) (mg : Str → Option Value) (base : Heap) (A : Around) : Prop where
  vals : ∀ x d, G.vals.lookup x = some d → ∃ u v, mg x = some u ∧ RelV v u ∧ ∀ A H, RV K A H d v
  funs : ∀ x j ls, G.funs.lookup x = some (j, ls) → Callee P w K mg base A x (spA K C j)
  roll : ∀ x, G.roll = some x → Callee P w K mg base A x spRoll
  blt : ∀ x, x ∈ bltNames → mg x = none
structure XOk (X : Cx) (F : Fr) (sc rs : Scope) (G : CEnv) (C : Handler) : Prop where
  calm : X.calm = true
  N : X.N = F.N
  nd : F.N.Nodup
  hsc : X.env.scope = sc
  kind : sc.kind = .function
  fn : ∀ x, rs.names.lookup x = some .cell → X.fn x = true
  units : X.A.units + 80 < cLine
  pass : X.xe = fun _ _ => False
  tab : TabOk G C X.prog X.w X.K X.mg X.base X.A

section
variable {X : Cx} {F : Fr} {sc rs : Scope} {G : CEnv} {C : Handler}
theorem isVis_iff (o : XOk X F sc rs G C) {x : Str} (h : isVis sc x = true) : Vis X.env.scope x := by
  rw [o.hsc]
  unfold isVis at h
  unfold Vis
  split at h
  · rename_i e; exact .inl e
  · rename_i e; exact .inr (.inl e)
  · rename_i e; exact .inr (.inr e)
  · cases h
theorem isLoc_iff (o : XOk X F sc rs G C) {x : Str} (h : isLoc sc rs x = true) : Loc X.env.scope x ∧ (X.fn x = true ∨ X.env.scope.names.lookup x = some .local) := by
  rw [o.hsc]
  unfold isLoc at h
  unfold L2.Loc
  split at h
  · rename_i e; exact ⟨.inl e, .inr e⟩
  · rename_i e; exact ⟨.inr e, .inl (o.fn x (of_decide_eq_true h))⟩
  · cases h
theorem isGl_iff (o : XOk X F sc rs G C) {x : Str} (h : isGl sc x = true) : Gl X x := by
  show X.env.scope.names.lookup x = _
  rw [o.hsc]
  unfold isGl at h
  split at h
  · assumption
  · cases h
theorem plain_dbg {x : Str} (h : plainName x = true) : (x == ("__debug__" : Str)) = false ∧ (x == ("__classdict__" : Str)) = false ∧ x ≠ ("__name__" : Str) := by
  unfold plainName at h
  simp only [Bool.and_eq_true, Bool.not_eq_true', decide_eq_false_iff_not] at h
  exact ⟨h.1.1, h.1.2, h.2⟩
theorem pe_slot (o : XOk X F sc rs G C) {x : Str} {i : Nat} {p : Pos} (h : slotOf F sc x = some i) : PE X (.Name x p) (tVar i) := by
  unfold slotOf at h
  split at h
  · rename_i hc
    rw [Bool.and_eq_true] at hc
    obtain ⟨h1, h2, _⟩ := plain_dbg hc.2
    exact pe_var (by rw [o.N]; exact ixOf_at h) (isVis_iff o hc.1) h1 h2
  · cases h
theorem star_ok {e : Expr} {es : List Expr} {env : PySem.Env} (h : nst e = true) : starEach (e :: es) env = (false, eval e env) :: starEach es env := by
  cases e <;> first | rfl | cases h
theorem star_back {pos : Pos} {env : PySem.Env} : ∀ {es : List Expr}, es.all nst = true → (backTo pos (starEach es env)).any (·.1) = false
  | [], _ => rfl
  | e :: es, h => by
    rw [List.all_cons, Bool.and_eq_true] at h
    rw [star_ok h.1]
    show (false || (backTo pos (starEach es env)).any (·.1)) = false
    rw [star_back h.2]
    rfl

/-- an expression and its term: as a value, as a test -/
structure Good (X : Cx) (C : Handler) (e : Expr) (t : E) : Prop where
  pe : PE X e (TEr X.K C t)
  pt : PT X e (TTr X.K C t)
  ns : nst e = true
def plainT : Expr → Bool
  | .UnaryOp .Not _ _ => false
  | .BoolOp .. => false
  | .IfExp .. => false
  | .Compare .. => false
  | _ => true
theorem isTrue_of {e : Expr} {env : PySem.Env} (h : plainT e = true) : ∀ whole, PySem.isTrue e env whole = (do let v ← whole; standAt e.pos; holding [v] (PySem.truthy v)) := by
  intro whole
  cases e <;> first | rfl | (cases h; done) | skip
  rename_i op a p
  cases op <;> first | rfl | cases h
theorem Good.of {e : Expr} {t : E} (h : PE X e (TEr X.K C t)) (hp : plainT e = true) (hn : nst e = true) : Good X C e t := ⟨h, PT.imp (pt_truth h (isTrue_of hp)) fun σ H Q q => TTr.val q, hn⟩

/-! ### comparisons answer with bools -/
def isB : AV → Bool
  | .bool _ => true
  | _ => false
def Prim.cmp : Prim → Bool
  | .eq | .ne | .lt | .le | .gt | .ge | .isin | .notin | .isN | .notN | .isB _ => true
  | _ => false
theorem cmpI_b {f : Int → Int → Bool} {g : AV → AV → Bool} {a b v : AV} (h : cmpI f g a b = some v) : isB v = true := by
  unfold cmpI at h
  split at h
  · cases h; rfl
  · split at h
    · cases h; rfl
    · cases h
  · cases h
theorem omap_b {o : Option Bool} {f : Bool → Bool} {v : AV} (h : o.map (fun k => PyData.bool (f k)) = some v) : isB v = true := by
  cases o with
  | none => cases h
  | some k => cases h; rfl
theorem cmp_b {p : Prim} {vs : List AV} {v : AV} (hp : p.cmp = true) (h : primS p vs = some v) : isB v = true := by
  cases p <;> first | (cases hp; done) | skip
  all_goals
    unfold primS at h
    split at h <;> first | (cases h; done) | exact cmpI_b h | exact omap_b (f := id) h | exact omap_b h | (cases h; rfl) | simp_all
theorem bool_post {e : E} (he : (match e with
    | .prim p _ => p.cmp
    | .chain _ q _ _ _ => q.cmp
    | _ => false) = true) {ρ : Env} {K : EK} : wpE C e ρ K = wpE C e ρ (fun d ρ1 => isB d && K d ρ1) := by
  cases e with
  | prim p as =>
    rw [wpE, wpE]
    congr 1
    funext vs ρ1
    cases h : primS p vs with
    | none => rfl
    | some v =>
      have := cmp_b he h
      show K v ρ1 = (isB v && K v ρ1)
      rw [this]; rfl
  | chain p q a b c =>
    rw [wpE, wpE]
    congr 1
    funext x ρ1
    congr 1
    funext y ρ2
    split
    · congr 1
      funext z ρ3
      cases h : primS q [y, z] with
      | none => rfl
      | some v =>
        have := cmp_b he h
        show K v ρ3 = (isB v && K v ρ3)
        rw [this]; rfl
    · show K (.bool false) ρ2 = (true && K (.bool false) ρ2)
      rw [Bool.true_and]
    · rfl
  | _ => cases he
theorem TTr.test {K : PySem.W.Frag} {e : E} {σ : St} {H : Hp} {Q : Bool → Hp → Prop} (he : (match e with
    | .prim p _ => p.cmp
    | .chain _ q _ _ _ => q.cmp
    | _ => false) = true) (h : TTr K C e σ H Q) : tTest (TEr K C e) σ H Q := by
  obtain ⟨B, o, ρ, Kb, r, w, f⟩ := h
  rw [bool_post he] at w
  refine ⟨B, o, ρ, _, r, w, fun o1 H1 ρ1 d v x1 r1 rv _ q => ?_⟩
  rw [Bool.and_eq_true] at q
  cases d with
  | bool b =>
    cases rv
    exact ⟨b, rfl, f _ _ _ _ x1 r1 q.2⟩
  | _ => cases q.1

/-! ### the operators -/
theorem binP_ok {op : Operator} {p : Prim} (h : binP op = some p) : ∃ r : R2, OpR X (binaryOp op) r ∧ PR X.K p (R2of r) := by
  cases op <;> simp only [binP, Option.some.injEq, reduceCtorEq] at h <;> subst h
  · exact ⟨_, op_addR, pr_add⟩
  · exact ⟨_, op_sub, pr_sub⟩
  · exact ⟨_, op_mulR, pr_mul⟩
  · exact ⟨_, op_mod, pr_mod⟩
  · exact ⟨_, op_pow, pr_pow⟩
  · exact ⟨_, op_shl, pr_shl⟩
  · exact ⟨_, op_shr, pr_shr⟩
  · exact ⟨_, op_or, pr_bor⟩
  · exact ⟨_, op_xor, pr_xor⟩
  · exact ⟨_, op_and, pr_band⟩
  · exact ⟨_, op_fdivW, pr_fdiv⟩
theorem cmpP_ok {op : CmpOp} {p : Prim} (hu : X.A.units + 80 < cLine) (h : cmpP op = some p) : ∃ r : R2, OpR X (compareOp op) r ∧ PR X.K p (R2of r) ∧ p.cmp = true := by
  cases op <;> simp only [cmpP, Option.some.injEq, reduceCtorEq] at h <;> subst h
  · exact ⟨_, op_eqR (by omega), pr_eq, rfl⟩
  · exact ⟨_, op_neR (by omega), pr_ne, rfl⟩
  · exact ⟨_, op_ltR (by omega), pr_lt, rfl⟩
  · exact ⟨_, op_leR (by omega), pr_le, rfl⟩
  · exact ⟨_, op_gtR (by omega), pr_gt, rfl⟩
  · exact ⟨_, op_geR (by omega), pr_ge, rfl⟩
  · exact ⟨_, op_inR (by omega), pr_in, rfl⟩
  · exact ⟨_, op_notInR (by omega), pr_notin, rfl⟩
end
end G
namespace G
open PySem PySem.Spec PyProof.Rows L2

section
variable {X : Cx} {F : Fr} {sc rs : Scope} {G : CEnv} {C : Handler} {f : Expr → Option E}
/-! ### arguments -/
def cArg (F : Fr) (sc : Scope) (f : Expr → Option E) (pk : Bool) (e : Expr) : Option ArgE := match e with
  | .Name x _ => (match slotOf F sc x with
    | some i => if pk && F.own.contains i then some (.p i) else (f e).map .v
    | none => (f e).map .v)
  | _ => (f e).map .v
def FOk (X : Cx) (C : Handler) (f : Expr → Option E) : Prop := ∀ e t, f e = some t → Good X C e t
theorem map_v {o : Option E} {a : ArgE} (h : o.map ArgE.v = some a) : ∃ t, o = some t ∧ a = .v t := by
  cases o with
  | none => cases h
  | some t => cases h; exact ⟨t, rfl, rfl⟩
theorem cArg_ok (o : XOk X F sc rs G C) (hf : FOk X C f) {pk : Bool} {e : Expr} {a : ArgE} (h : cArg F sc f pk e = some a) : PE X e (tArg X.K C a) ∧ nst e = true ∧ a.ok pk = true := by
  have key : (f e).map ArgE.v = some a → PE X e (tArg X.K C a) ∧ nst e = true ∧ a.ok pk = true := fun h => by
    obtain ⟨t, h1, rfl⟩ := map_v h
    exact ⟨(hf _ _ h1).pe, (hf _ _ h1).ns, rfl⟩
  unfold cArg at h
  split at h
  · rename_i x p
    split at h
    · rename_i i hi
      split at h
      · rename_i hc
        cases h
        rw [Bool.and_eq_true] at hc
        exact ⟨pe_slot o hi, rfl, hc.1⟩
      · exact key h
    · exact key h
  · exact key h
theorem nomark' {b : Expr} {op : CmpOp} (h : (op == .In || op == .NotIn) = false) : behindInMarks op b = false := by
  cases b <;> simp [behindInMarks, h]

/-! ### a op b, -a -/
def cBin (F : Fr) (sc : Scope) (f : Expr → Option E) (a : Expr) (op : Operator) (b : Expr) : Option E := (binP op).bind fun p => (cArg F sc f p.pkOk a).bind fun x => (cArg F sc f p.pkOk b).map fun y => .prim p (.mk x (.mk y .nil))
theorem cBin_ok (o : XOk X F sc rs G C) (hf : FOk X C f) {a b : Expr} {op : Operator} {pos : Pos} {t : E} (h : cBin F sc f a op b = some t) : Good X C (.BinOp a op b pos) t := by
  unfold cBin at h
  simp only [Option.bind_eq_some_iff, Option.map_eq_some_iff] at h
  obtain ⟨p, hp, x, hx, y, hy, rfl⟩ := h
  obtain ⟨r, h1, h2⟩ := binP_ok (X := X) hp
  obtain ⟨ha, na, oa⟩ := cArg_ok o hf hx
  obtain ⟨hb, nb, ob⟩ := cArg_ok o hf hy
  exact .of (PE.imp (pe_op h1 ha hb) fun σ H Q q => TEr.prim2 oa ob h2 q) rfl rfl
def cNeg (F : Fr) (sc : Scope) (f : Expr → Option E) (a : Expr) : Option E := (f a).map fun x => .prim .neg (.mk (.v x) .nil)
theorem cNeg_ok (o : XOk X F sc rs G C) (hf : FOk X C f) {a : Expr} {pos : Pos} {t : E} (h : cNeg F sc f a = some t) : Good X C (.UnaryOp .USub a pos) t := by
  unfold cNeg at h
  simp only [Option.map_eq_some_iff] at h
  obtain ⟨x, hx, rfl⟩ := h
  exact .of (PE.imp (pe_un un_neg (hf _ _ hx).pe) fun σ H Q q => TEr.prim1 (a := .v x) rfl pr_neg q) rfl rfl
def cNot (f : Expr → Option E) (a : Expr) : Option E := (f a).map .not
theorem cNot_ok (hf : FOk X C f) {a : Expr} {pos : Pos} {t : E} (h : cNot f a = some t) : Good X C (.UnaryOp .Not a pos) t := by
  unfold cNot at h
  simp only [Option.map_eq_some_iff] at h
  obtain ⟨x, hx, rfl⟩ := h
  exact ⟨PE.imp (pe_notT (hf _ _ hx).pe) fun σ H Q q => TEr.notR q, PT.imp (pt_not (hf _ _ hx).pt) fun σ H Q q => TTr.notR q, rfl⟩
/-! ### and, or -/
def cBool (op : BoolOp) (f : Expr → Option E) : List Expr → Option E
  | [] => none
  | [a] => f a
  | a :: b :: r => (f a).bind fun x => (cBool op f (b :: r)).map fun y => match op with
    | .And => .and x y
    | .Or => .or x y
theorem cBool_ok (hf : FOk X C f) {op : BoolOp} {pos : Pos} : ∀ {es : List Expr} {t : E}, cBool op f es = some t → PE X (.BoolOp op es pos) (TEr X.K C t) ∧ PW X (.BoolOp op es pos) (TTr X.K C t)
  | [], _, h => by cases h
  | [a], t, h => by
    have g := hf _ _ (show f a = some t from h)
    refine ⟨pe_one g.pe, ?_⟩
    cases op
    · exact pw_and1 g.pt
    · exact pw_or1 g.pt
  | a :: b :: r, t, h => by
    unfold cBool at h
    simp only [Option.bind_eq_some_iff, Option.map_eq_some_iff] at h
    obtain ⟨x, hx, y, hy, rfl⟩ := h
    obtain ⟨h1, h2⟩ := cBool_ok hf hy
    have g := hf _ _ hx
    cases op
    · exact ⟨PE.imp (pe_andT g.pe h1) fun σ H Q q => TEr.andR q, PW.imp (pw_and g.pt h2) fun σ H Q q => TTr.andR q⟩
    · exact ⟨PE.imp (pe_orT g.pe h1) fun σ H Q q => TEr.orR q, PW.imp (pw_or g.pt h2) fun σ H Q q => TTr.orR q⟩
/-! ### comparisons -/
def cCmp (F : Fr) (sc : Scope) (f : Expr → Option E) (a : Expr) (op : CmpOp) (b : Expr) : Option E := match op, b with
  | .Is, .Constant .none _ _ => (cArg F sc f false a).map fun x => .prim .isN (.mk x .nil)
  | .IsNot, .Constant .none _ _ => (cArg F sc f false a).map fun x => .prim .notN (.mk x .nil)
  | .Is, .Constant (.bool k) _ _ => (cArg F sc f false a).map fun x => .prim (.isB k) (.mk x .nil)
  | _, _ => (cmpP op).bind fun p => (cArg F sc f p.pkOk a).bind fun x => (cArg F sc f p.pkOk b).bind fun y => if behindInMarks op b = false then some (.prim p (.mk x (.mk y .nil))) else none
theorem good_cmp {a b : Expr} {op : CmpOp} {pos : Pos} {p : Prim} {es : Es} {t1 : TE} (hp : p.cmp = true) (h1 : PE X (.Compare a [op] [b] pos) t1) (h2 : PT X (.Compare a [op] [b] pos) (tTest t1)) (hi : ∀ σ H Q, TEr X.K C (.prim p es) σ H Q → t1 σ H Q) :
    Good X C (.Compare a [op] [b] pos) (.prim p es) := ⟨PE.imp h1 hi, PT.imp h2 fun σ H Q q => hi _ _ _ (TTr.test hp q), rfl⟩
theorem cCmp_ok (o : XOk X F sc rs G C) (hf : FOk X C f) {a b : Expr} {op : CmpOp} {pos : Pos} {t : E} (h : cCmp F sc f a op b = some t) : Good X C (.Compare a [op] [b] pos) t := by
  unfold cCmp at h
  split at h
  · simp only [Option.map_eq_some_iff] at h
    obtain ⟨x, hx, rfl⟩ := h
    obtain ⟨ha, na, oa⟩ := cArg_ok o hf hx
    exact good_cmp (p := .isN) rfl (pe_cmpR op_isN ha pe_non (nomark' rfl)) (pt_cmpR op_isN ha pe_non (nomark' rfl)) fun σ H Q q => tArg.mono (TEr.prim1 (p := .isN) oa pr_isN q) fun x H1 q => ⟨rfl, q⟩
  · simp only [Option.map_eq_some_iff] at h
    obtain ⟨x, hx, rfl⟩ := h
    obtain ⟨ha, na, oa⟩ := cArg_ok o hf hx
    exact good_cmp (p := .notN) rfl (pe_cmpR op_notN ha pe_non (nomark' rfl)) (pt_cmpR op_notN ha pe_non (nomark' rfl)) fun σ H Q q => tArg.mono (TEr.prim1 (p := .notN) oa pr_notN q) fun x H1 q => ⟨rfl, q⟩
  · rename_i k _ _
    simp only [Option.map_eq_some_iff] at h
    obtain ⟨x, hx, rfl⟩ := h
    obtain ⟨ha, na, oa⟩ := cArg_ok o hf hx
    exact good_cmp (p := .isB k) rfl (pe_cmpR op_isBl ha pe_bl (nomark' rfl)) (pt_cmpR op_isBl ha pe_bl (nomark' rfl)) fun σ H Q q => tArg.mono (TEr.prim1 (p := .isB k) oa pr_isB q) fun x H1 ⟨b, e, q⟩ => ⟨b, k, e, rfl, q⟩
  · simp only [Option.bind_eq_some_iff] at h
    obtain ⟨p, hp, x, hx, y, hy, h⟩ := h
    split at h
    · rename_i hm
      cases h
      obtain ⟨r, h1, h2, h3⟩ := cmpP_ok (X := X) o.units hp
      obtain ⟨ha, na, oa⟩ := cArg_ok o hf hx
      obtain ⟨hb, nb, ob⟩ := cArg_ok o hf hy
      exact good_cmp h3 (pe_cmpR h1 ha hb hm) (pt_cmpR h1 ha hb hm) fun σ H Q q => TEr.prim2 oa ob h2 q
    · cases h
def cChain (f : Expr → Option E) (a : Expr) (op op2 : CmpOp) (b c : Expr) : Option E := (cmpP op).bind fun p => (cmpP op2).bind fun q => (f a).bind fun x => (f b).bind fun y => (f c).bind fun z => if lastMarks [op, op2] [b, c] = false then some (.chain p q x y z) else none
theorem cmp_fresh {p : Prim} (h : p.cmp = true) : p.fresh = false := by cases p <;> first | rfl | cases h
theorem cChain_ok (o : XOk X F sc rs G C) (hf : FOk X C f) {a b c : Expr} {op op2 : CmpOp} {pos : Pos} {t : E} (h : cChain f a op op2 b c = some t) : Good X C (.Compare a [op, op2] [b, c] pos) t := by
  unfold cChain at h
  simp only [Option.bind_eq_some_iff] at h
  obtain ⟨p, hp, q, hq, x, hx, y, hy, z, hz, h⟩ := h
  split at h
  · rename_i hm
    cases h
    obtain ⟨r, h1, h2, h3⟩ := cmpP_ok (X := X) o.units hp
    obtain ⟨r', h1', h2', h3'⟩ := cmpP_ok (X := X) o.units hq
    have key : ∀ σ H Q, TEr X.K C (.chain p q x y z) σ H Q → tChain r r' (TEr X.K C x) (TEr X.K C y) (TEr X.K C z) σ H Q := fun σ H Q q => by
      refine TEr.chainR (fun A H d e z x y Q rd re es qq => ?_) (fun A H d e z x y Q rd re es qq => ?_) q
      · refine h2 A H [d, e] [x, y] _ Q (RA.cons rd (RA.cons re RA.nil)) es (fun v H' post => ?_) x y rfl
        rcases post with ⟨_, rfl, rv⟩ | ⟨p, x, _, rfl, rfl, c⟩
        · cases rv; exact qq
        · cases c
      · exact h2' A H [d, e] [x, y] _ Q (RA.cons rd (RA.cons re RA.nil)) es qq x y rfl
    refine ⟨PE.imp (pe_chain h1 h1' (hf _ _ hx).pe (hf _ _ hy).pe (hf _ _ hz).pe hm) key, PT.imp (pt_chain h1 h1' (hf _ _ hx).pe (hf _ _ hy).pe (hf _ _ hz).pe hm) fun σ H Q q => key _ _ _ (TTr.test h3' q), rfl⟩
  · cases h
/-! ### a if c else b -/
def cIf (f : Expr → Option E) (c a b : Expr) : Option E := (f c).bind fun x => (f a).bind fun y => (f b).map fun z => .ife x y z
theorem TTr.ife {K : PySem.W.Frag} {c a b : E} {σ : St} {H : Hp} {Q : Bool → Hp → Prop} (h : TTr K C (.ife c a b) σ H Q) : TTr K C c σ H fun t H1 => if t = true then TTr K C a σ H1 Q else TTr K C b σ H1 Q := by
  obtain ⟨B, o, ρ, Kb, r, w, f⟩ := h
  have e : (fun (v : AV) (ρ1 : Env) => match truthy v with | some true => wpE C a ρ1 (tst Kb) | some false => wpE C b ρ1 (tst Kb) | none => false) = tst fun t ρ => if t then wpE C a ρ (tst Kb) else wpE C b ρ (tst Kb) := tst_ife
  rw [wpE] at w
  refine ⟨B, o, ρ, fun t ρ => if t then wpE C a ρ (tst Kb) else wpE C b ρ (tst Kb), r, (congrArg (fun z => wpE C c ρ z = true) e).mp w, fun o1 H1 ρ1 t x1 r1 q => ?_⟩
  cases t with
  | true => exact ⟨B, o1, ρ1, Kb, r1, q, f.ext x1⟩
  | false => exact ⟨B, o1, ρ1, Kb, r1, q, f.ext x1⟩
theorem pt_ifExp {c a b : Expr} {pos : Pos} {tc ta tb : TT} (hc : PT X c tc) (ha : PT X a ta) (hb : PT X b tb) : PT X (.IfExp c a b pos) (fun σ H Q => tc σ H fun t H1 => if t = true then ta σ H1 Q else tb σ H1 Q) := by
  refine ⟨fun pins s σ H Q I h => ?_⟩
  show wpAny _ _ (do if ← PySem.isTrue c X.env (eval c X.env) then PySem.isTrue a X.env (eval a X.env) else PySem.isTrue b X.env (eval b X.env)) _ _ s
  refine wpAny_bind (thn (hc.run pins s σ H _ I h) fun t s1 ⟨H1, I1, q1⟩ => ?_)
  cases t with
  | true => exact ha.run pins s1 σ H1 Q I1 q1
  | false => exact hb.run pins s1 σ H1 Q I1 q1
theorem cIf_ok (hf : FOk X C f) {c a b : Expr} {pos : Pos} {t : E} (h : cIf f c a b = some t) : Good X C (.IfExp c a b pos) t := by
  unfold cIf at h
  simp only [Option.bind_eq_some_iff, Option.map_eq_some_iff] at h
  obtain ⟨x, hx, y, hy, z, hz, rfl⟩ := h
  exact ⟨PE.imp (pe_ifExp (hf _ _ hx).pt (hf _ _ hy).pe (hf _ _ hz).pe) fun σ H Q q => TEr.ifeR q, PT.imp (pt_ifExp (hf _ _ hx).pt (hf _ _ hy).pt (hf _ _ hz).pt) fun σ H Q q => TTr.ife q, rfl⟩
end
end G
namespace G
open PySem PySem.Spec PyProof.Rows L2

section
variable {X : Cx} {F : Fr} {sc rs : Scope} {G : CEnv} {C : Handler} {f : Expr → Option E}
/-! ### constants, names -/
def cCst : Const → Option E
  | .none => some (.cst .none)
  | .bool b => some (.cst (.bool b))
  | .int i => some (.cst (.int i))
  | .str x => some (.cst (.str x))
  | _ => none
theorem cCst_ok {c : Const} {k : Nat} {p : Pos} {t : E} (h : cCst c = some t) : Good X C (.Constant c k p) t := by
  cases c <;> first | (cases h; done) | skip
  all_goals cases h
  · exact .of (PE.imp pe_non fun σ H Q q => TEr.cst (fun A H => .non) q) rfl rfl
  · exact .of (PE.imp pe_bl fun σ H Q q => TEr.cst (fun A H => .bl _) q) rfl rfl
  · exact .of (PE.imp pe_int fun σ H Q q => TEr.cst (fun A H => .int _) q) rfl rfl
  · exact .of (PE.imp pe_str fun σ H Q q => TEr.cst (fun A H => .str _) q) rfl rfl
def cName (G : CEnv) (F : Fr) (sc : Scope) (x : Str) : Option E := match slotOf F sc x with
  | some i => some (.var i)
  | none => if isGl sc x && plainName x then (G.vals.lookup x).map .cst else none
theorem cName_ok (o : XOk X F sc rs G C) {x : Str} {p : Pos} {t : E} (h : cName G F sc x = some t) : Good X C (.Name x p) t := by
  unfold cName at h
  split at h
  · rename_i i hi
    cases h
    exact .of (PE.imp (pe_slot o hi) fun σ H Q q => TEr.var q) rfl rfl
  · split at h
    · rename_i hc
      rw [Bool.and_eq_true] at hc
      simp only [Option.map_eq_some_iff] at h
      obtain ⟨d, hd, rfl⟩ := h
      obtain ⟨u, v, h1, h2, h3⟩ := o.tab.vals x d hd
      exact .of (PE.imp (pe_glob (isGl_iff o hc.1) h1 h2 (plain_dbg hc.2).1) fun σ H Q q => TEr.cst h3 q) rfl rfl
    · cases h
/-! ### displays -/
def cEs (f : Expr → Option E) : List Expr → Option Es
  | [] => some .nil
  | a :: r => (f a).bind fun x => (cEs f r).map fun xs => .cons x xs
theorem cEs_ok (hf : FOk X C f) : ∀ {es : List Expr} {t : Es}, cEs f es = some t → PA X es (TAr X.K C false t) ∧ es.all nst = true
  | [], _, h => by
    cases h
    exact ⟨PA.imp pa_nil fun σ H Q q => TAr.nil q, rfl⟩
  | a :: r, _, h => by
    unfold cEs at h
    simp only [Option.bind_eq_some_iff, Option.map_eq_some_iff] at h
    obtain ⟨x, hx, xs, hxs, rfl⟩ := h
    obtain ⟨h1, h2⟩ := cEs_ok hf hxs
    have g := hf _ _ hx
    exact ⟨PA.imp (pa_cons g.pe h1 (star_ok g.ns)) fun σ H Q q => TAr.cons q, by rw [List.all_cons, g.ns, h2]; rfl⟩
def cTup (f : Expr → Option E) (es : List Expr) : Option E := (cEs f es).map fun t => .prim .mkTup t
theorem cTup_ok (hf : FOk X C f) {es : List Expr} {k : Nat} {p : Pos} {t : E} (h : cTup f es = some t) : Good X C (.Tuple es k p) t := by
  unfold cTup at h
  simp only [Option.map_eq_some_iff] at h
  obtain ⟨t, ht, rfl⟩ := h
  exact .of (PE.imp (pe_tup (cEs_ok hf ht).1) fun σ H Q q => TEr.mkTup q) rfl rfl
def cLst (f : Expr → Option E) (es : List Expr) : Option E := (cEs f es).map .disp
theorem cLst_ok (hf : FOk X C f) {es : List Expr} {p : Pos} {t : E} (h : cLst f es = some t) : Good X C (.List es p) t := by
  unfold cLst at h
  simp only [Option.map_eq_some_iff] at h
  obtain ⟨t, ht, rfl⟩ := h
  exact .of (PE.imp (pe_lst (cEs_ok hf ht).1) fun σ H Q q => TEr.dispR q) rfl rfl
def cPrs (f : Expr → Option E) : List (Option Expr) → List Expr → Option (List (E × E))
  | [], [] => some []
  | some k :: ks, v :: vs => (f k).bind fun x => (f v).bind fun y => (cPrs f ks vs).map fun r => (x, y) :: r
  | _, _ => none
theorem cPrs_ok (hf : FOk X C f) {p : Pos} : ∀ {ks : List (Option Expr)} {vs : List Expr} {t : List (E × E)}, cPrs f ks vs = some t → PPs X p ks vs (t.map fun p => (TEr X.K C p.1, TEr X.K C p.2)) ∧ ks.all (·.isSome) = true ∧ ks.length = vs.length
  | [], [], _, h => by cases h; exact ⟨pps_nil, rfl, rfl⟩
  | [], _ :: _, _, h => by cases h
  | some _ :: _, [], _, h => by cases h
  | none :: _, _, _, h => by cases h
  | some k :: ks, v :: vs, _, h => by
    unfold cPrs at h
    simp only [Option.bind_eq_some_iff, Option.map_eq_some_iff] at h
    obtain ⟨x, hx, y, hy, r, hr, rfl⟩ := h
    obtain ⟨h1, h2, h3⟩ := cPrs_ok hf hr
    exact ⟨pps_cons (hf _ _ hx).pe (hf _ _ hy).pe h1, by rw [List.all_cons, h2]; rfl, by simp [h3]⟩
def cDict (k1 : Bool) (f : Expr → Option E) (ks : List (Option Expr)) (vs : List Expr) : Option E := match ks, vs with
  | [], [] => some (.prim (.newD (if k1 then 1 else 0)) .nil)
  | _, _ => (cPrs f ks vs).bind fun t => if ks.length ≤ 15 ∧ ks ≠ [] then some (.prim .dispD (flatE t)) else none
theorem cDict_ok (hf : FOk X C f) {k1 : Bool} {ks : List (Option Expr)} {vs : List Expr} {p : Pos} {t : E} (h : cDict k1 f ks vs = some t) : Good X C (.Dict ks vs p) t := by
  unfold cDict at h
  split at h
  · cases h
    cases k1
    · exact .of (PE.imp pe_dnewK fun σ H Q q => TEr.newK q) rfl rfl
    · exact .of (PE.imp pe_dnewT fun σ H Q q => TEr.newT q) rfl rfl
  · simp only [Option.bind_eq_some_iff] at h
    obtain ⟨t, ht, h⟩ := h
    split at h
    · rename_i hc
      cases h
      obtain ⟨h1, h2, h3⟩ := cPrs_ok hf ht (p := p)
      exact .of (PE.imp (pe_disp h1 h2 h3 hc.2 hc.1) fun σ H Q q => TEr.dispDR q) rfl rfl
    · cases h
/-! ### subscripts -/
def noSl : Expr → Bool
  | .Slice .. => false
  | _ => true
theorem noSl_iff {b : Expr} (h : noSl b = true) : PlainIx b := by
  intro o i
  cases b <;> first | rfl | cases h
def cSub (F : Fr) (sc : Scope) (f : Expr → Option E) (a i : Expr) : Option E := match i with
  | .Slice none none none _ => (cArg F sc f true a).map fun x => .prim (.slice false false) (.mk x .nil)
  | .Slice (some l) none none _ => (cArg F sc f true a).bind fun x => (f l).map fun y => .prim (.slice true false) (.mk x (.mk (.v y) .nil))
  | .Slice none (some u) none _ => (cArg F sc f true a).bind fun x => (f u).map fun y => .prim (.slice false true) (.mk x (.mk (.v y) .nil))
  | .Slice (some l) (some u) none _ => (cArg F sc f true a).bind fun x => (f l).bind fun y => (f u).map fun z => .prim (.slice true true) (.mk x (.mk (.v y) (.mk (.v z) .nil)))
  | .Slice none none (some (.UnaryOp .USub (.Constant (.int 1) _ _) _)) _ => (cArg F sc f true a).map fun x => .prim .rev (.mk x .nil)
  | i => if noSl i then (cArg F sc f true a).bind fun x => (f i).map fun y => .prim .ix (.mk x (.mk (.v y) .nil)) else none
theorem cSub_ok (o : XOk X F sc rs G C) (hf : FOk X C f) {a i : Expr} {p : Pos} {t : E} (h : cSub F sc f a i = some t) : Good X C (.Subscript a i p) t := by
  unfold cSub at h
  split at h
  · simp only [Option.map_eq_some_iff] at h
    obtain ⟨x, hx, rfl⟩ := h
    obtain ⟨ha, na, oa⟩ := cArg_ok o hf hx
    exact .of (PE.imp (pe_slG sl_all ha pov_none pov_none) fun σ H Q q => TEr.slc00 q) rfl rfl
  · simp only [Option.bind_eq_some_iff, Option.map_eq_some_iff] at h
    obtain ⟨x, hx, y, hy, rfl⟩ := h
    obtain ⟨ha, na, oa⟩ := cArg_ok o hf hx
    exact .of (PE.imp (pe_slG sl_all ha (pov_some (hf _ _ hy).pe) pov_none) fun σ H Q q => TEr.slc10 (b := .v y) q) rfl rfl
  · simp only [Option.bind_eq_some_iff, Option.map_eq_some_iff] at h
    obtain ⟨x, hx, y, hy, rfl⟩ := h
    obtain ⟨ha, na, oa⟩ := cArg_ok o hf hx
    exact .of (PE.imp (pe_slG sl_all ha pov_none (pov_some (hf _ _ hy).pe)) fun σ H Q q => TEr.slc01 (b := .v y) q) rfl rfl
  · simp only [Option.bind_eq_some_iff, Option.map_eq_some_iff] at h
    obtain ⟨x, hx, y, hy, z, hz, rfl⟩ := h
    obtain ⟨ha, na, oa⟩ := cArg_ok o hf hx
    exact .of (PE.imp (pe_slG sl_all ha (pov_some (hf _ _ hy).pe) (pov_some (hf _ _ hz).pe)) fun σ H Q q => TEr.slc11 (b := .v y) (c := .v z) q) rfl rfl
  · simp only [Option.map_eq_some_iff] at h
    obtain ⟨x, hx, rfl⟩ := h
    obtain ⟨ha, na, oa⟩ := cArg_ok o hf hx
    exact .of (PE.imp (pe_revL ha) fun σ H Q q => TEr.revR q) rfl rfl
  · split at h
    · rename_i hn
      simp only [Option.bind_eq_some_iff, Option.map_eq_some_iff] at h
      obtain ⟨x, hx, y, hy, rfl⟩ := h
      obtain ⟨ha, na, oa⟩ := cArg_ok o hf hx
      exact .of (PE.imp (pe_ix (ix_all (by have := o.units; omega)) ha (hf _ _ hy).pe (noSl_iff hn)) fun σ H Q q => TEr.prim2 (b := .v y) (p := .ix) oa rfl pr_ix q) rfl rfl
    · cases h
/-! ### targets -/
def nmSlot (F : Fr) (sc rs : Scope) : Expr → Option Nat
  | .Name x _ => if isLoc sc rs x && plainName x then ixOf F.N x else none
  | _ => none
def cTgt (F : Fr) (sc rs : Scope) : Expr → Option Tgt
  | .Name x _ => if isLoc sc rs x && plainName x then (ixOf F.N x).map .nm else none
  | .Tuple es _ _ => (es.mapM (nmSlot F sc rs)).map .tp
  | _ => none
theorem mapM_cons' {α β : Type} {g : α → Option β} {a : α} {r : List α} {l : List β} (h : (a :: r).mapM g = some l) : ∃ b bs, g a = some b ∧ r.mapM g = some bs ∧ l = b :: bs := by
  rw [List.mapM_cons] at h
  cases e : g a with
  | none => rw [e] at h; cases h
  | some b =>
    rw [e] at h
    cases e2 : r.mapM g with
    | none => rw [e2] at h; cases h
    | some bs => rw [e2] at h; cases h; exact ⟨b, bs, rfl, rfl, rfl⟩
def gNms : List Nat → TGs
  | [] => gNil
  | i :: r => gCons (gName i) (gNms r)
theorem gNms_of : ∀ {is : List Nat} {xs : List V} {σ : St} {H : Hp} {Q : St → Hp → Prop}, xs.length = is.length → Q ((is.zip xs).foldl (fun σ p => σ.set p.1 (some p.2)) σ) H → gNms is xs σ H Q
  | [], [], _, _, _, _, q => ⟨rfl, q⟩
  | [], _ :: _, _, _, _, h, _ => by simp at h
  | _ :: _, [], _, _, _, h, _ => by simp at h
  | i :: is, x :: xs, σ, H, Q, h, q => ⟨x, xs, rfl, gNms_of (by simpa using h) q⟩
theorem tgs_ok (o : XOk X F sc rs G C) : ∀ {es : List Expr} {is : List Nat}, es.mapM (nmSlot F sc rs) = some is → PGs X es (gNms is) ∧ (assignEach es X.env).length = is.length ∧ (assignEach es X.env).findIdx? (·.1) = none ∧ (assignEach es X.env).all (fun p => !p.1) = true
  | [], is, h => by cases h; exact ⟨pgs_nil, rfl, rfl, rfl⟩
  | e :: es, is, h => by
    obtain ⟨b, bs, h1, h2, rfl⟩ := mapM_cons' h
    obtain ⟨g1, g2, g3, g4⟩ := tgs_ok o h2
    unfold nmSlot at h1
    split at h1
    · rename_i x p
      split at h1
      · rename_i hc
        rw [Bool.and_eq_true] at hc
        obtain ⟨l1, l2⟩ := isLoc_iff o hc.1
        refine ⟨pgs_cons (pg_name (by rw [o.N]; exact o.nd) (by rw [o.N]; exact ixOf_at h1) l1 l2) g1, ?_, ?_, ?_⟩
        · show (assignEach es X.env).length + 1 = bs.length + 1
          rw [g2]
        · show List.findIdx? (·.1) ((false, _) :: assignEach es X.env) = none
          rw [List.findIdx?_cons]
          simp [g3]
        · show (!false && (assignEach es X.env).all fun p => !p.1) = true
          rw [g4]; rfl
      · cases h1
    · cases h1
theorem cTgt_ok (o : XOk X F sc rs G C) {tg : Expr} {t : Tgt} (h : cTgt F sc rs tg = some t) : PG X tg (gSlots X.K t) := by
  unfold cTgt at h
  split at h
  · rename_i x p
    split at h
    · rename_i hc
      rw [Bool.and_eq_true] at hc
      simp only [Option.map_eq_some_iff] at h
      obtain ⟨i, hi, rfl⟩ := h
      obtain ⟨l1, l2⟩ := isLoc_iff o hc.1
      exact pg_name (by rw [o.N]; exact o.nd) (by rw [o.N]; exact ixOf_at hi) l1 l2
    · cases h
  · rename_i es k p
    simp only [Option.map_eq_some_iff] at h
    obtain ⟨is, his, rfl⟩ := h
    obtain ⟨g1, g2, g3, _⟩ := tgs_ok o his
    exact PG.imp (pg_tup o.calm g1 g2 g3) fun v σ H Q ⟨a, xs, e, sq, hl, q⟩ => ⟨a, xs, e, sq, hl, gNms_of hl q⟩
  · cases h
end
end G
namespace G
open PySem PySem.Spec PyProof.Rows L2

section
variable {X : Cx} {F : Fr} {sc rs : Scope} {G : CEnv} {C : Handler} {f : Expr → Option E}
/-! ### calls of builtins -/
theorem good1B (o : XOk X F sc rs G C) {x : Str} {id : String} {p : Prim} {a : Expr} {y : ArgE} {r : V → Hp → VK → Prop} {np pos : Pos} (hc : CallR X (.builtin id) (C1 r)) (hpr : PR X.K p (R1of r)) (hv : bootBuiltins x = some (.builtin id)) (hx : x ∈ bltNames)
    (hg : isGl sc x = true) (hpn : plainName x = true) (ha : PE X a (tArg X.K C y)) (na : nst a = true) (oa : y.ok p.pkOk = true) : Good X C (.Call (.Name x np) [a] [] pos) (.prim p (.mk y .nil)) := by
  obtain ⟨n1, n2, n3⟩ := plain_dbg hpn
  exact .of (PE.imp (pe_callB hc (isGl_iff o hg) (o.tab.blt x hx) hv (pa_cons ha pa_nil (star_ok na)) n3 n1 (star_ok na) rfl) fun σ H Q q => tArg.mono (TEr.prim1 oa hpr q) fun x H1 q => ⟨x, rfl, q⟩) rfl rfl
theorem good1T (o : XOk X F sc rs G C) {x : Str} {T : String} {p : Prim} {a : Expr} {y : ArgE} {r : V → Hp → VK → Prop} {np pos : Pos} (hc : CallR X (.type T) (C1 r)) (hpr : PR X.K p (R1of r)) (hv : bootBuiltins x = some (.type T)) (hx : x ∈ bltNames)
    (hg : isGl sc x = true) (hpn : plainName x = true) (ha : PE X a (tArg X.K C y)) (na : nst a = true) (oa : y.ok p.pkOk = true) : Good X C (.Call (.Name x np) [a] [] pos) (.prim p (.mk y .nil)) := by
  obtain ⟨n1, n2, n3⟩ := plain_dbg hpn
  exact .of (PE.imp (pe_callTy hc (isGl_iff o hg) (o.tab.blt x hx) hv (pa_cons ha pa_nil (star_ok na)) n3 n1 (star_ok na) rfl) fun σ H Q q => tArg.mono (TEr.prim1 oa hpr q) fun x H1 q => ⟨x, rfl, q⟩) rfl rfl
theorem good2B (o : XOk X F sc rs G C) {x : Str} {id : String} {p : Prim} {a b : Expr} {y z : ArgE} {r : R2} {np pos : Pos} (hc : CallR X (.builtin id) (C2 r)) (hpr : PR X.K p (R2of r)) (hv : bootBuiltins x = some (.builtin id)) (hx : x ∈ bltNames)
    (hg : isGl sc x = true) (hpn : plainName x = true) (ha : PE X a (tArg X.K C y)) (na : nst a = true) (oa : y.ok p.pkOk = true) (hb : PE X b (tArg X.K C z)) (nb : nst b = true) (ob : z.ok p.pkOk = true) : Good X C (.Call (.Name x np) [a, b] [] pos) (.prim p (.mk y (.mk z .nil))) := by
  obtain ⟨n1, n2, n3⟩ := plain_dbg hpn
  exact .of (PE.imp (pe_callB hc (isGl_iff o hg) (o.tab.blt x hx) hv (pa_cons ha (pa_cons hb pa_nil (star_ok nb)) (star_ok na)) n3 n1 (star_ok na) (by rw [star_ok nb]; rfl)) fun σ H Q q => tArg.mono (TEr.prim2 oa ob hpr q) fun x H1 q => tArg.mono q fun y H2 q => ⟨x, y, rfl, q⟩) rfl rfl
def blt1 (x : Str) : Option Prim :=
  if x = ("len" : Str) then some .len else if x = ("max" : Str) then some .max1 else if x = ("min" : Str) then some .min1 else if x = ("sum" : Str) then some .sum else if x = ("all" : Str) then some .all else
  if x = ("any" : Str) then some .any else if x = ("sorted" : Str) then some .sorted else if x = ("abs" : Str) then some .abs else if x = ("int" : Str) then some .int1 else if x = ("tuple" : Str) then some .tupOf else
  if x = ("list" : Str) then some .lstOf else if x = ("dict" : Str) then some .dictP else none
theorem blt1_ok (o : XOk X F sc rs G C) {x : Str} {p : Prim} {a : Expr} {y : ArgE} {np pos : Pos} (h : blt1 x = some p) (hg : isGl sc x = true) (hpn : plainName x = true) (ha : PE X a (tArg X.K C y)) (na : nst a = true) (oa : y.ok p.pkOk = true) :
    Good X C (.Call (.Name x np) [a] [] pos) (.prim p (.mk y .nil)) := by
  have hu := o.units
  unfold blt1 at h
  split at h
  · rename_i e; subst e; cases h; exact good1B o call_lenR pr_len (by decide +kernel) (by decide +kernel) hg hpn ha na oa
  split at h
  · rename_i e; subst e; cases h; exact good1B o (call_maxR o.calm (by omega)) pr_max1 (by decide +kernel) (by decide +kernel) hg hpn ha na oa
  split at h
  · rename_i e; subst e; cases h; exact good1B o (call_minR o.calm (by omega)) pr_min1 (by decide +kernel) (by decide +kernel) hg hpn ha na oa
  split at h
  · rename_i e; subst e; cases h; exact good1B o (call_sumR o.calm) pr_sum (by decide +kernel) (by decide +kernel) hg hpn ha na oa
  split at h
  · rename_i e; subst e; cases h; exact good1B o (call_allR o.calm) pr_all (by decide +kernel) (by decide +kernel) hg hpn ha na oa
  split at h
  · rename_i e; subst e; cases h; exact good1B o (call_anyR o.calm) pr_any (by decide +kernel) (by decide +kernel) hg hpn ha na oa
  split at h
  · rename_i e; subst e; cases h; exact good1B o (call_sortR hu) pr_sorted (by decide +kernel) (by decide +kernel) hg hpn ha na oa
  split at h
  · rename_i e; subst e; cases h; exact good1B o call_absR pr_abs (by decide +kernel) (by decide +kernel) hg hpn ha na oa
  split at h
  · rename_i e; subst e; cases h; exact good1T o call_intR pr_int1 (by decide +kernel) (by decide +kernel) hg hpn ha na oa
  split at h
  · rename_i e; subst e; cases h; exact good1T o call_tupR pr_tupOf (by decide +kernel) (by decide +kernel) hg hpn ha na oa
  split at h
  · rename_i e; subst e; cases h; exact good1T o call_lstR pr_lstOf (by decide +kernel) (by decide +kernel) hg hpn ha na oa
  split at h
  · rename_i e; subst e; cases h; exact good1T o (call_dictPR o.calm) pr_dictP (by decide +kernel) (by decide +kernel) hg hpn ha na oa
  · cases h
def cB1 (F : Fr) (sc : Scope) (f : Expr → Option E) (x : Str) (a : Expr) : Option E := (blt1 x).bind fun p => (cArg F sc f p.pkOk a).map fun y => .prim p (.mk y .nil)
/-- list(range(..)), sorted(set(..)) -/
def cNest (F : Fr) (sc : Scope) (f : Expr → Option E) (x r : Str) (args : List Expr) : Option E :=
  if isGl sc r && plainName r then
    if x = ("list" : Str) ∧ r = ("range" : Str) then match args with
      | [a] => (f a).map fun y => .prim .rangeL1 (.cons y .nil)
      | [a, b] => (f a).bind fun y => (f b).map fun z => .prim .rangeL2 (.cons y (.cons z .nil))
      | _ => none
    else if x = ("sorted" : Str) ∧ r = ("set" : Str) then match args with
      | [a] => (cArg F sc f true a).map fun y => .prim .sset (.mk y .nil)
      | _ => none
    else none
  else none
theorem cNest_ok (o : XOk X F sc rs G C) (hf : FOk X C f) {x r : Str} {args : List Expr} {t : E} {np rp cp pos : Pos} (hg : isGl sc x = true) (h : cNest F sc f x r args = some t) : Good X C (.Call (.Name x np) [.Call (.Name r rp) args [] cp] [] pos) t := by
  have hu := o.units
  unfold cNest at h
  split at h
  · rename_i hc
    rw [Bool.and_eq_true] at hc
    split at h
    · rename_i e
      obtain ⟨rfl, rfl⟩ := e
      split at h
      · rename_i a
        simp only [Option.map_eq_some_iff] at h
        obtain ⟨y, hy, rfl⟩ := h
        have g := hf _ _ hy
        exact .of (PE.imp (pe_listRg o.calm (isGl_iff o hg) (o.tab.blt _ (by decide +kernel)) (prg_1 (isGl_iff o hc.1) (o.tab.blt _ (by decide +kernel)) g.pe (star_ok g.ns)) (star_ok rfl)) fun σ H Q q => TEr.rgl1 q) rfl rfl
      · rename_i a b
        simp only [Option.bind_eq_some_iff, Option.map_eq_some_iff] at h
        obtain ⟨y, hy, z, hz, rfl⟩ := h
        have g := hf _ _ hy
        have g2 := hf _ _ hz
        exact .of (PE.imp (pe_listRg o.calm (isGl_iff o hg) (o.tab.blt _ (by decide +kernel)) (prg_2 (isGl_iff o hc.1) (o.tab.blt _ (by decide +kernel)) g.pe g2.pe (star_ok g.ns) (star_ok g2.ns) (by rw [star_ok g2.ns]; rfl)) (star_ok rfl)) fun σ H Q q => TEr.rgl2 q) rfl rfl
      · cases h
    · split at h
      · rename_i e
        obtain ⟨rfl, rfl⟩ := e
        split at h
        · simp only [Option.map_eq_some_iff] at h
          obtain ⟨y, hy, rfl⟩ := h
          obtain ⟨ha, na, oa⟩ := cArg_ok o hf hy
          exact .of (PE.imp (pe_sset (isGl_iff o hg) (o.tab.blt _ (by decide +kernel)) (isGl_iff o hc.1) (o.tab.blt _ (by decide +kernel)) ha o.calm hu (star_ok na)) fun σ H Q q => TEr.prim1 (p := .sset) oa pr_sset q) rfl rfl
        · cases h
      · cases h
  · cases h
def tyOf (t : Str) : Option Ty := if t = ("int" : Str) then some .int else if t = ("bool" : Str) then some .bool else if t = ("str" : Str) then some .str else if t = ("tuple" : Str) then some .tuple else if t = ("list" : Str) then some .list else if t = ("dict" : Str) then some .dict else none
theorem tyOf_ok {t : Str} {y : Ty} (h : tyOf t = some y) : bootBuiltins t = some (.type y.nm) ∧ t ∈ bltNames := by
  unfold tyOf at h
  split at h
  · rename_i e; subst e; cases h; exact ⟨by decide +kernel, by decide +kernel⟩
  split at h
  · rename_i e; subst e; cases h; exact ⟨by decide +kernel, by decide +kernel⟩
  split at h
  · rename_i e; subst e; cases h; exact ⟨by decide +kernel, by decide +kernel⟩
  split at h
  · rename_i e; subst e; cases h; exact ⟨by decide +kernel, by decide +kernel⟩
  split at h
  · rename_i e; subst e; cases h; exact ⟨by decide +kernel, by decide +kernel⟩
  split at h
  · rename_i e; subst e; cases h; exact ⟨by decide +kernel, by decide +kernel⟩
  · cases h
def cB2 (F : Fr) (sc : Scope) (f : Expr → Option E) (x : Str) (a b : Expr) : Option E :=
  if x = ("isinstance" : Str) then match b with
    | .Name t _ => if isGl sc t && plainName t then (tyOf t).bind fun y => (cArg F sc f true a).map fun z => .prim (.isi y) (.mk z .nil) else none
    | _ => none
  else if x = ("max" : Str) then (cArg F sc f false a).bind fun y => (cArg F sc f false b).map fun z => .prim .max2 (.mk y (.mk z .nil))
  else if x = ("min" : Str) then (cArg F sc f false a).bind fun y => (cArg F sc f false b).map fun z => .prim .min2 (.mk y (.mk z .nil))
  else none
theorem cB2_ok (o : XOk X F sc rs G C) (hf : FOk X C f) {x : Str} {a b : Expr} {t : E} {np pos : Pos} (hg : isGl sc x = true) (hpn : plainName x = true) (h : cB2 F sc f x a b = some t) : Good X C (.Call (.Name x np) [a, b] [] pos) t := by
  unfold cB2 at h
  split at h
  · rename_i e
    subst e
    split at h
    · rename_i t p
      split at h
      · rename_i hc
        rw [Bool.and_eq_true] at hc
        simp only [Option.bind_eq_some_iff, Option.map_eq_some_iff] at h
        obtain ⟨y, hy, z, hz, rfl⟩ := h
        obtain ⟨ha, na, oa⟩ := cArg_ok o hf hz
        obtain ⟨h1, h2⟩ := tyOf_ok hy
        obtain ⟨n1, n2, n3⟩ := plain_dbg hpn
        obtain ⟨m1, m2, m3⟩ := plain_dbg hc.2
        have hty : PE X (.Name t p) (tC (.ty y.nm)) := pe_bltn (isGl_iff o hc.1) (o.tab.blt t h2) h1 rfl m3 m1
        exact .of (PE.imp (pe_callB (call_isiR y) (isGl_iff o hg) (o.tab.blt _ (by decide +kernel)) (by decide +kernel) (pa_cons ha (pa_cons hty pa_nil (star_ok rfl)) (star_ok na)) n3 n1 (star_ok na) rfl)
          fun σ H Q q => tArg.mono (TEr.prim1 (p := .isi y) oa pr_isi q) fun x H1 q => ⟨x, rfl, q⟩) rfl rfl
      · cases h
    · cases h
  split at h
  · rename_i e
    subst e
    simp only [Option.bind_eq_some_iff, Option.map_eq_some_iff] at h
    obtain ⟨y, hy, z, hz, rfl⟩ := h
    obtain ⟨ha, na, oa⟩ := cArg_ok o hf hy
    obtain ⟨hb, nb, ob⟩ := cArg_ok o hf hz
    exact good2B o (call_max2R o.calm) pr_max2 (by decide +kernel) (by decide +kernel) hg hpn ha na oa hb nb ob
  split at h
  · rename_i e
    subst e
    simp only [Option.bind_eq_some_iff, Option.map_eq_some_iff] at h
    obtain ⟨y, hy, z, hz, rfl⟩ := h
    obtain ⟨ha, na, oa⟩ := cArg_ok o hf hy
    obtain ⟨hb, nb, ob⟩ := cArg_ok o hf hz
    exact good2B o (call_min2R o.calm) pr_min2 (by decide +kernel) (by decide +kernel) hg hpn ha na oa hb nb ob
  · cases h

/-! ### calls of the text's own defs -/
def cFA (F : Fr) (sc : Scope) (f : Expr → Option E) (ls : List Nat) : Nat → List Expr → Option Es
  | _, [] => some .nil
  | k, e :: r => (cFA F sc f ls (k + 1) r).bind fun es => match e with
    | .Name x _ => (match slotOf F sc x with
      | some i => if ls.contains k && F.own.contains i then some (.pk i es) else (f e).map fun t => .cons t es
      | none => (f e).map fun t => .cons t es)
    | _ => (f e).map fun t => .cons t es
theorem cFA_ok (o : XOk X F sc rs G C) (hf : FOk X C f) {ls : List Nat} : ∀ {es : List Expr} {k : Nat} {t : Es}, cFA F sc f ls k es = some t → PA X es (TGr X.K C t) ∧ es.all nst = true
  | [], _, _, h => by
    cases h
    exact ⟨PA.imp pa_nil fun σ H Q q => TGr.nil q, rfl⟩
  | e :: r, k, t, h => by
    unfold cFA at h
    simp only [Option.bind_eq_some_iff] at h
    obtain ⟨es, hes, h⟩ := h
    obtain ⟨h1, h2⟩ := cFA_ok o hf hes
    have key : (f e).map (fun t => Es.cons t es) = some t → PA X (e :: r) (TGr X.K C t) ∧ (e :: r).all nst = true := fun h => by
      simp only [Option.map_eq_some_iff] at h
      obtain ⟨y, hy, rfl⟩ := h
      have g := hf _ _ hy
      exact ⟨PA.imp (pa_cons g.pe h1 (star_ok g.ns)) fun σ H Q q => TGr.cons q, by rw [List.all_cons, g.ns, h2]; rfl⟩
    split at h
    · split at h
      · rename_i i hi
        split at h
        · cases h
          exact ⟨PA.imp (pa_cons (pe_slot o hi) h1 (star_ok rfl)) fun σ H Q q => TGr.pk q, by rw [List.all_cons, h2]; rfl⟩
        · exact key h
      · exact key h
    · exact key h
theorem callee_pe {x : Str} {sp : Sp} {e : Expr} {es : List Expr} {t : TA} {np pos : Pos} (o : XOk X F sc rs G C) (c : Callee X.prog X.w X.K X.mg X.base X.A x sp) (hg : isGl sc x = true) (hpn : plainName x = true) (ha : PA X (e :: es) t) (hn : (e :: es).all nst = true) :
    PE X (.Call (.Name x np) (e :: es) [] pos) (tCall sp [] E0 t) := by
  obtain ⟨k, f, fd, ps, F, hr, hm, hk, hb⟩ := c.ex
  rw [List.all_cons, Bool.and_eq_true] at hn
  exact pe_call F hr (isGl_iff o hg) hm hk hb .nil pass0 ha (plain_dbg hpn).1 (star_ok hn.1) (star_back hn.2)
def cCall (G : CEnv) (F : Fr) (sc : Scope) (f : Expr → Option E) (x : Str) (args : List Expr) : Option E :=
  if isGl sc x && plainName x then (match G.funs.lookup x with
    | some (j, ls) => if args = [] then none else (cFA F sc f ls 0 args).map (.call j)
    | none => if G.roll = some x then (match args with
        | [.Name c _, e] => (match slotOf F sc c with
          | some i => (f e).map (.roll i)
          | none => none)
        | _ => none)
      else match args with
        | [a] => (match a with
          | .Call (.Name r _) rargs [] _ => (match cNest F sc f x r rargs with
            | some t => some t
            | none => cB1 F sc f x a)
          | _ => cB1 F sc f x a)
        | [a, b] => cB2 F sc f x a b
        | _ => none)
  else none
theorem cB1_ok (o : XOk X F sc rs G C) (hf : FOk X C f) {x : Str} {a : Expr} {t : E} {np pos : Pos} (hg : isGl sc x = true) (hpn : plainName x = true) (h : cB1 F sc f x a = some t) : Good X C (.Call (.Name x np) [a] [] pos) t := by
  unfold cB1 at h
  simp only [Option.bind_eq_some_iff, Option.map_eq_some_iff] at h
  obtain ⟨p, hp, y, hy, rfl⟩ := h
  obtain ⟨ha, na, oa⟩ := cArg_ok o hf hy
  exact blt1_ok o hp hg hpn ha na oa
theorem cCall_ok (o : XOk X F sc rs G C) (hf : FOk X C f) {x : Str} {args : List Expr} {t : E} {np pos : Pos} (h : cCall G F sc f x args = some t) : Good X C (.Call (.Name x np) args [] pos) t := by
  unfold cCall at h
  split at h
  · rename_i hc
    rw [Bool.and_eq_true] at hc
    split at h
    · rename_i j ls hl
      split at h
      · cases h
      · rename_i hne
        simp only [Option.map_eq_some_iff] at h
        obtain ⟨es, hes, rfl⟩ := h
        obtain ⟨h1, h2⟩ := cFA_ok o hf hes
        cases args with
        | nil => exact absurd rfl hne
        | cons e r => exact .of (PE.imp (callee_pe o (o.tab.funs x j ls hl) hc.1 hc.2 h1 h2) fun σ H Q q => TEr.callR q) rfl rfl
    · split at h
      · rename_i hx
        split at h
        · rename_i c cp e
          split at h
          · rename_i i hi
            simp only [Option.map_eq_some_iff] at h
            obtain ⟨y, hy, rfl⟩ := h
            have g := hf _ _ hy
            exact .of (PE.imp (callee_pe o (o.tab.roll x hx) hc.1 hc.2 (pa_cons (pe_slot o hi) (pa_cons g.pe pa_nil (star_ok g.ns)) (star_ok rfl)) (by show (true && (nst e && true)) = true; rw [g.ns]; rfl)) fun σ H Q q => TEr.rollR q) rfl rfl
          · cases h
        · cases h
      · split at h
        · split at h
          · split at h
            · rename_i hn
              cases h
              exact cNest_ok o hf hc.1 hn
            · exact cB1_ok o hf hc.1 hc.2 h
          · exact cB1_ok o hf hc.1 hc.2 h
        · exact cB2_ok o hf hc.1 hc.2 h
        · cases h
  · cases h
/-! ### methods -/
def cMeth (F : Fr) (sc : Scope) (f : Expr → Option E) (x m : Str) (np apos cpos : Pos) (args : List Expr) : Option E :=
  if (apos.endLine == cpos.line) = true then
    if m = ("index" : Str) then match args with
      | [e] => (f (.Name x np)).bind fun a => (f e).map fun y => .idx a y
      | _ => none
    else if m = ("pop" : Str) then match args, slotOf F sc x with
      | [], some i => some (.pop i)
      | [e], some i => (f e).map fun y => .popAt i y
      | _, _ => none
    else none
  else none
theorem few_ok {e : Expr} {cpos : Pos} {env : PySem.Env} (h : nst e = true) : ((backTo cpos (starEach [e] env)).all (fun x => !x.1) && (backToKw cpos (keywordEach [] env)).all (fun x => x.1.isSome)
    && decide (([e] : List Expr).length + ([] : List Keyword).length + (if ([] : List Keyword).isEmpty then 0 else 1) < 30)) = true := by
  rw [star_ok h]; rfl
theorem cMeth_ok (o : XOk X F sc rs G C) (hf : FOk X C f) {x m : Str} {np apos cpos : Pos} {args : List Expr} {t : E} (h : cMeth F sc f x m np apos cpos args = some t) : Good X C (.Call (.Attribute (.Name x np) m apos) args [] cpos) t := by
  have hu := o.units
  unfold cMeth at h
  split at h
  · rename_i hl
    split at h
    · rename_i e
      subst e
      split at h
      · simp only [Option.bind_eq_some_iff, Option.map_eq_some_iff] at h
        obtain ⟨a, ha, y, hy, rfl⟩ := h
        have g := hf _ _ ha
        have g2 := hf _ _ hy
        exact .of (PE.imp (pe_bm PySem.F.plainAttrs_list PySem.F.slot_list_index PySem.F.type_list_index (mt_indexD (by omega)) g.pe (pa_cons g2.pe pa_nil (star_ok g2.ns)) rfl (few_ok g2.ns) hl (star_ok g2.ns) rfl) fun σ H Q q => TEr.idxR q) rfl rfl
      · cases h
    · split at h
      · rename_i e
        subst e
        split at h
        · rename_i i hi
          cases h
          exact .of (PE.imp (pe_bm0 PySem.F.plainAttrs_list PySem.F.slot_list_pop PySem.F.type_list_pop mt_pop (pe_slot o hi) rfl hl) fun σ H Q q => TEr.popR q) rfl rfl
        · rename_i e i hi
          simp only [Option.map_eq_some_iff] at h
          obtain ⟨y, hy, rfl⟩ := h
          have g := hf _ _ hy
          exact .of (PE.imp (pe_bm PySem.F.plainAttrs_list PySem.F.slot_list_pop PySem.F.type_list_pop mt_popAt (pe_slot o hi) (pa_cons g.pe pa_nil (star_ok g.ns)) rfl (few_ok g.ns) hl (star_ok g.ns) rfl) fun σ H Q q => TEr.popAtR q) rfl rfl
        · cases h
      · cases h
  · cases h
end
end G
namespace G
open PySem PySem.Spec PyProof.Rows L2

section
variable {X : Cx} {F : Fr} {sc rs : Scope} {G : CEnv} {C : Handler} {f : Expr → Option E}
/-! ### what a loop walks -/
def isTupE : Expr → Bool
  | .Tuple .. => true
  | _ => false
def noSet : Expr → Bool
  | .Set .. => false
  | _ => true
theorem noSet_iff {e : Expr} (h : noSet e = true) (env : PySem.Env) (x : Value) : foldedSetIterable e env x = pure x := by
  cases e <;> first | rfl | cases h
def cSeq (f : Expr → Option E) (iter : Expr) : Option (SrcK × Es) := (f iter).map fun t => (.seq, .cons t .nil)
def cSrc (sc : Scope) (f : Expr → Option E) (tg iter : Expr) : Option (SrcK × Es) := match iter with
  | .Call (.Name x _) args [] _ => if isGl sc x && plainName x then
      (if x = ("range" : Str) then match args with
        | [a] => (cEs f [a]).map fun es => (.rng1, es)
        | [a, b] => (cEs f [a, b]).map fun es => (.rng2, es)
        | [a, b, c] => (cEs f [a, b, c]).map fun es => (.rng3, es)
        | _ => none
      else if x = ("enumerate" : Str) then match args with
        | [a] => if isTupE tg then (cEs f [a]).map fun es => (.enum, es) else none
        | _ => none
      else if x = ("zip" : Str) then match args with
        | [a, b] => if isTupE tg then (cEs f [a, b]).map fun es => (.zip, es) else none
        | _ => none
      else cSeq f iter) else cSeq f iter
  | _ => cSeq f iter
def SrcGood (X : Cx) (C : Handler) (tg iter : Expr) (k : SrcK) (es : Es) : Prop := ∃ WR, SrcOk X.K k WR ∧ PI X tg iter (fun σ H R => TAr X.K C false es σ H fun vs H1 => WR vs H1 R)
theorem cSeq_ok (hf : FOk X C f) {tg iter : Expr} {k : SrcK} {es : Es} (h : cSeq f iter = some (k, es)) : SrcGood X C tg iter k es := by
  unfold cSeq at h
  simp only [Option.map_eq_some_iff, Prod.mk.injEq] at h
  obtain ⟨t, ht, rfl, rfl⟩ := h
  exact ⟨_, src_seq, PI.imp (pi_seqK (hf _ _ ht).pe) fun σ H R q => tArg.mono (a := .v t) (TAr.cons q) fun x H1 q => TAr.nil q⟩
theorem cSrc_ok (o : XOk X F sc rs G C) (hf : FOk X C f) {tg iter : Expr} {k : SrcK} {es : Es} (h : cSrc sc f tg iter = some (k, es)) : SrcGood X C tg iter k es := by
  unfold cSrc at h
  split at h
  · rename_i x np args p
    split at h
    · rename_i hc
      rw [Bool.and_eq_true] at hc
      split at h
      · rename_i e
        subst e
        have hm := o.tab.blt ("range" : Str) (by decide +kernel)
        have hg := isGl_iff o hc.1
        split at h
        · simp only [Option.map_eq_some_iff, Prod.mk.injEq] at h
          obtain ⟨t, ht, rfl, rfl⟩ := h
          obtain ⟨h1, h2⟩ := cEs_ok hf ht
          simp only [List.all_cons, List.all_nil, Bool.and_true] at h2
          exact ⟨_, src_rng1, pi_range1 hg hm h1 (star_ok h2)⟩
        · simp only [Option.map_eq_some_iff, Prod.mk.injEq] at h
          obtain ⟨t, ht, rfl, rfl⟩ := h
          obtain ⟨h1, h2⟩ := cEs_ok hf ht
          simp only [List.all_cons, List.all_nil, Bool.and_true, Bool.and_eq_true] at h2
          exact ⟨_, src_rng2, pi_range2 hg hm h1 (by rw [star_ok h2.1, star_ok h2.2]; rfl) (star_ok h2.2)⟩
        · simp only [Option.map_eq_some_iff, Prod.mk.injEq] at h
          obtain ⟨t, ht, rfl, rfl⟩ := h
          obtain ⟨h1, h2⟩ := cEs_ok hf ht
          rw [List.all_cons, Bool.and_eq_true] at h2
          exact ⟨_, src_rng3, pi_range3 hg hm h1 (star_ok h2.1) (star_back h2.2)⟩
        · cases h
      split at h
      · rename_i e
        subst e
        have hm := o.tab.blt ("enumerate" : Str) (by decide +kernel)
        have hg := isGl_iff o hc.1
        split at h
        · split at h
          · rename_i ht0
            simp only [Option.map_eq_some_iff, Prod.mk.injEq] at h
            obtain ⟨t, ht, rfl, rfl⟩ := h
            obtain ⟨h1, h2⟩ := cEs_ok hf ht
            simp only [List.all_cons, List.all_nil, Bool.and_true] at h2
            cases tg <;> first | (cases ht0; done) | skip
            exact ⟨_, src_enum, pi_enumK hg hm h1 (star_ok h2)⟩
          · cases h
        · cases h
      split at h
      · rename_i e
        subst e
        have hm := o.tab.blt ("zip" : Str) (by decide +kernel)
        have hg := isGl_iff o hc.1
        split at h
        · split at h
          · rename_i ht0
            simp only [Option.map_eq_some_iff, Prod.mk.injEq] at h
            obtain ⟨t, ht, rfl, rfl⟩ := h
            obtain ⟨h1, h2⟩ := cEs_ok hf ht
            rw [List.all_cons, Bool.and_eq_true] at h2
            cases tg <;> first | (cases ht0; done) | skip
            exact ⟨_, src_zip, pi_zipK hg hm h1 (star_ok h2.1) (star_back h2.2)⟩
          · cases h
        · cases h
      · exact cSeq_ok hf h
    · exact cSeq_ok hf h
  · exact cSeq_ok hf h

/-! ### comprehensions -/
def cComp (F : Fr) (sc : Scope) (f : Expr → Option E) (g : Scope → Scope → Expr → Option E) (elt : Expr) (gens : List Comprehension) (scope : Scope) : Option E := match gens with
  | [⟨tg, iter, ifs, 0⟩] => (cTgt F (relS scope sc) scope tg).bind fun t => (cSrc sc f tg iter).bind fun ks => (g (relS scope sc) scope elt).bind fun el =>
      (match ifs with
        | [] => some Es.nil
        | [c] => (g (relS scope sc) scope c).map fun x => .cons x .nil
        | _ => none).bind fun cs =>
      if blkC F.N sc scope (t.slots.map fun i => (F.N.getD i ⟨#[]⟩, i)) && noSet iter then some (.comp ks.1 ks.2 t cs el) else none
  | _ => none
theorem XOk.blk (o : XOk X F sc rs G C) {scope : Scope} {s : Shared} {H : Hp} {Ca : Addr} {cl : List (Str × Addr)} {fp : List Addr} (hk : scope.kind = .function) : XOk (X.blk s H scope (compEnvC scope cl Ca X.env) fp) F (relS scope sc) scope G C where
  calm := o.calm
  N := o.N
  nd := o.nd
  hsc := by
    have : (compEnvC scope cl Ca X.env).scope = relS scope X.env.scope := rfl
    show (compEnvC scope cl Ca X.env).scope = _
    rw [this, o.hsc]
  kind := hk
  fn := fun x h => by
    show (scope.names.lookup x == some .cell) = true
    rw [h]; rfl
  units := o.units
  pass := rfl
  tab := o.tab
structure CompOk (X : Cx) (C : Handler) (elt tg iter : Expr) (ifs : List Expr) (scope : Scope) (k : SrcK) (es : Es) (t : Tgt) (cs : Es) (el : E) (own : List (Str × Nat)) : Prop where
  src : SrcGood X C tg iter k es
  ok : BlkOk X.N X.env.scope scope own
  slots : own.map (·.2) = t.slots
  tgt : ∀ (s : Shared) (H : Hp) (Ca : Addr) (cl : List (Str × Addr)) (fp : List Addr), PG (X.blk s H scope (compEnvC scope cl Ca X.env) fp) tg (gSlots X.K t)
  ifs : ∀ (s : Shared) (H : Hp) (Ca : Addr) (cl : List (Str × Addr)) (fp : List Addr), PTs (X.blk s H scope (compEnvC scope cl Ca X.env) fp) ifs (TCr X.K C cs)
  elt : ∀ (s : Shared) (H : Hp) (Ca : Addr) (cl : List (Str × Addr)) (fp : List Addr), PE (X.blk s H scope (compEnvC scope cl Ca X.env) fp) elt (TEr X.K C el)
  noS : ∀ x, foldedSetIterable iter X.env x = pure x
theorem cComp_parts (o : XOk X F sc rs G C) (hf : FOk X C f) {g : Scope → Scope → Expr → Option E} (hg : ∀ X' sc' rs', XOk X' F sc' rs' G C → FOk X' C (g sc' rs')) {elt : Expr} {gens : List Comprehension} {scope : Scope} {e : E} (h : cComp F sc f g elt gens scope = some e) :
    ∃ tg iter ifs k es t cs el own, gens = [⟨tg, iter, ifs, 0⟩] ∧ e = .comp k es t cs el ∧ CompOk X C elt tg iter ifs scope k es t cs el own := by
  unfold cComp at h
  split at h
  · rename_i tg iter ifs
    simp only [Option.bind_eq_some_iff] at h
    obtain ⟨t, ht, ks, hks, el, hel, cs, hcs, h⟩ := h
    split at h
    · rename_i hc
      cases h
      rw [Bool.and_eq_true] at hc
      have hb : BlkOk X.N X.env.scope scope (t.slots.map fun i => (F.N.getD i ⟨#[]⟩, i)) := by
        rw [o.N, o.hsc]; exact blkOk_by hc.1
      refine ⟨tg, iter, ifs, ks.1, ks.2, t, cs, el, _, rfl, rfl, ⟨cSrc_ok o hf (show cSrc sc f tg iter = some (ks.1, ks.2) from hks), hb, by rw [List.map_map]; exact List.map_id _, fun s H Ca cl fp => ?_, fun s H Ca cl fp => ?_, fun s H Ca cl fp => ?_, noSet_iff hc.2 _⟩⟩
      · exact cTgt_ok (o.blk hb.kind) ht
      · have o' := o.blk (s := s) (H := H) (Ca := Ca) (cl := cl) (fp := fp) hb.kind
        split at hcs
        · cases hcs
          exact PTs.imp pts_nil fun σ H Q q => TCr.nilR q
        · simp only [Option.map_eq_some_iff] at hcs
          obtain ⟨x, hx, rfl⟩ := hcs
          exact PTs.imp (pts_one (hg _ _ _ o' _ _ hx).pt) fun σ H Q q => TCr.oneR q
        · cases hcs
      · exact (hg _ _ _ (o.blk hb.kind) _ _ hel).pe
    · cases h
  · cases h
theorem comp_read {elt tg iter : Expr} {ifs : List Expr} {scope : Scope} {k : SrcK} {es : Es} {t : Tgt} {cs : Es} {el : E} {own : List (Str × Nat)} (p : CompOk X C elt tg iter ifs scope k es t cs el own) :
    ∃ wi, PI X tg iter wi ∧ ∀ σ H Q, TEr X.K C (.comp k es t cs el) σ H Q → tLc wi (gSlots X.K t) (TCr X.K C cs) (TEr X.K C el) (own.map (·.2)) σ H Q := by
  obtain ⟨WR, h1, h2⟩ := p.src
  refine ⟨_, h2, fun σ H Q q => ?_⟩
  rw [p.slots]
  exact TEr.compR h1 q
theorem cComp_ok (o : XOk X F sc rs G C) (hf : FOk X C f) {g : Scope → Scope → Expr → Option E} (hg : ∀ X' sc' rs', XOk X' F sc' rs' G C → FOk X' C (g sc' rs')) {elt : Expr} {gens : List Comprehension} {scope : Scope} {pos : Pos} {e : E} (h : cComp F sc f g elt gens scope = some e) :
    Good X C (.ListComp elt gens scope pos) e := by
  obtain ⟨tg, iter, ifs, k, es, t, cs, el, own, rfl, rfl, p⟩ := cComp_parts o hf hg h
  obtain ⟨wi, h1, h2⟩ := comp_read p
  exact .of (PE.imp (pe_lc o.calm (by rw [o.N]; exact o.nd) h1 p.ok p.tgt p.ifs p.elt p.noS) h2) rfl rfl

/-! ### expressions -/
def cE1 (G : CEnv) (F : Fr) (sc : Scope) (f : Expr → Option E) (g : Scope → Scope → Expr → Option E) : Expr → Option E
  | .Constant c _ _ => cCst c
  | .Name x _ => cName G F sc x
  | .BinOp a op b _ => cBin F sc f a op b
  | .UnaryOp .USub a _ => cNeg F sc f a
  | .UnaryOp .Not a _ => cNot f a
  | .BoolOp op es _ => cBool op f es
  | .Compare a [op] [b] _ => cCmp F sc f a op b
  | .Compare a [op, op2] [b, c] _ => cChain f a op op2 b c
  | .IfExp c a b _ => cIf f c a b
  | .Subscript a i _ => cSub F sc f a i
  | .Tuple es _ _ => cTup f es
  | .List es _ => cLst f es
  | .Dict ks vs _ => cDict false f ks vs
  | .Call (.Name x _) args [] _ => cCall G F sc f x args
  | .Call (.Attribute (.Name x np) m apos) args [] cpos => cMeth F sc f x m np apos cpos args
  | .ListComp elt gens scope _ => cComp F sc f g elt gens scope
  | _ => none
theorem cE1_ok (o : XOk X F sc rs G C) (hf : FOk X C f) {g : Scope → Scope → Expr → Option E} (hg : ∀ X' sc' rs', XOk X' F sc' rs' G C → FOk X' C (g sc' rs')) : FOk X C (cE1 G F sc f g) := by
  intro e t h
  unfold cE1 at h
  split at h
  · exact cCst_ok h
  · exact cName_ok o h
  · exact cBin_ok o hf h
  · exact cNeg_ok o hf h
  · exact cNot_ok hf h
  · obtain ⟨h1, h2⟩ := cBool_ok hf h
    exact ⟨h1, h2.pt, rfl⟩
  · exact cCmp_ok o hf h
  · exact cChain_ok o hf h
  · exact cIf_ok hf h
  · exact cSub_ok o hf h
  · exact cTup_ok hf h
  · exact cLst_ok hf h
  · exact cDict_ok hf h
  · exact cCall_ok o hf h
  · exact cMeth_ok o hf h
  · exact cComp_ok o hf hg h
  · cases h
def cE (G : CEnv) (F : Fr) : Nat → Scope → Expr → Option E
  | 0, _, _ => none
  | n + 1, sc, e => cE1 G F sc (cE G F n sc) (fun sc' _ => cE G F n sc') e
theorem cE_ok : ∀ (n : Nat) {X : Cx} {sc rs : Scope}, XOk X F sc rs G C → FOk X C (cE G F n sc)
  | 0, _, _, _, _ => fun e t h => by cases h
  | n + 1, X, sc, rs, o => cE1_ok o (cE_ok n o) fun X' sc' rs' o' => cE_ok n o'
end
end G
namespace G
open PySem PySem.Spec PyProof.Rows L2

section
variable {X : Cx} {F : Fr} {sc : Scope} {G : CEnv} {C : Handler} {f : Expr → Option E} {N : Nat} {W : Nat → Prop}
def noComp : Expr → Bool
  | .ListComp .. => false
  | .SetComp .. => false
  | .DictComp .. => false
  | _ => true
theorem swaps_no {e : Expr} {t : Option Expr} {l : Nat} {env : PySem.Env} (h : noComp e = true) : swapsWith e t l env = pure false := by
  cases e <;> first | rfl | cases h
theorem swaps_sub {e o i : Expr} {p : Pos} {l : Nat} {env : PySem.Env} : swapsWith e (some (.Subscript o i p)) l env = pure false := by
  cases e <;> rfl
def swB (sc scope : Scope) (t : Str) (tl vl : Nat) : Bool := (sc.names.lookup t == some .local) && tl == vl && !(scope.names.any fun p => p.1 == t && (p.2 == .local || p.2 == .cell))
theorem swaps_name (o : XOk X F sc sc G C) {elt : Expr} {gens : List Comprehension} {scope : Scope} {pos tp : Pos} {t : Str} {l : Nat} :
    swapsWith (.ListComp elt gens scope pos) (some (.Name t tp)) l X.env = pure (swB sc scope t tp.line pos.line) := by
  have e1 : X.env.blockKind = .function := by
    show (if X.env.scope.kind.isAnnotationScope then ScopeKind.function else X.env.scope.kind) = _
    rw [o.hsc, o.kind]; rfl
  have e2 : X.env.kindOf t = sc.names.lookup t := by
    show X.env.scope.names.lookup t = _
    rw [o.hsc]
  show (pure (X.env.blockKind == .function && X.env.kindOf t == some .local && tp.line == (Expr.ListComp elt gens scope pos).pos.line && !(scope.names.any fun (n, k) => n == t && (k == .local || k == .cell))) : Sem Bool) = _
  rw [e1, e2]
  rfl

/-! ### x = e -/
def cVal (F : Fr) (f : Expr → Option E) (i : Nat) : Expr → Option E
  | .Dict ks vs _ => cDict (F.k1.contains i) f ks vs
  | e => f e
theorem cVal_ok (hf : FOk X C f) {i : Nat} {e : Expr} {t : E} (h : cVal F f i e = some t) : Good X C e t := by
  unfold cVal at h
  split at h
  · exact cDict_ok hf h
  · exact hf _ _ h
def asgOr (F : Fr) (i : Nat) (t : E) : S := if F.own.contains i && t.fresh then .own i t else .asg (.nm i) t
theorem asgOr_read {i : Nat} {t : E} {D : Ends} {σ : St} {H : Hp} {K : PySem.W.Frag} (h : TSr K C N W (asgOr F i t) D σ H) : tAsg (TEr K C t) (gName i) D σ H := by
  unfold asgOr at h
  split at h
  · exact TSr.ownR h
  · exact TSr.asgR h
def SGood (X : Cx) (C : Handler) (N : Nat) (W : Nat → Prop) (st : Stmt) (s : S) : Prop := PS X st (TSr X.K C N W s)
def cSet (F : Fr) (sc : Scope) (f : Expr → Option E) (x : Str) (tp : Pos) (e : Expr) : Option S :=
  if isLoc sc sc x && plainName x then (ixOf F.N x).bind fun i => match e with
    | .ListComp elt gens scope pos => if swB sc scope x tp.line pos.line then none else (f e).map fun t => asgOr F i t
    | _ => if noComp e then (cVal F f i e).map fun t => asgOr F i t else none
  else none
theorem cSet_ok (o : XOk X F sc sc G C) (hf : FOk X C f) {x : Str} {tp pos : Pos} {e : Expr} {s : S} (h : cSet F sc f x tp e = some s) : SGood X C N W (.Assign [.Name x tp] e pos) s := by
  have hN : X.N.Nodup := by rw [o.N]; exact o.nd
  unfold cSet at h
  split at h
  · rename_i hc
    rw [Bool.and_eq_true] at hc
    obtain ⟨l1, l2⟩ := isLoc_iff o hc.1
    simp only [Option.bind_eq_some_iff] at h
    obtain ⟨i, hi, h⟩ := h
    have hi' : X.N[i]? = some x := by rw [o.N]; exact ixOf_at hi
    split at h
    · split at h
      · cases h
      · rename_i hs
        simp only [Option.map_eq_some_iff] at h
        obtain ⟨t, ht, rfl⟩ := h
        have hs' := Bool.eq_false_iff.mpr hs
        exact PS.imp (ps_set hN hi' l1 (hf _ _ ht).pe (by rw [swaps_name o, hs']) l2) fun D σ H q => asgOr_read q
    · split at h
      · rename_i hn
        simp only [Option.map_eq_some_iff] at h
        obtain ⟨t, ht, rfl⟩ := h
        exact PS.imp (ps_set hN hi' l1 (cVal_ok hf ht).pe (swaps_no hn) l2) fun D σ H q => asgOr_read q
      · cases h
  · cases h
/-- name = [..] on one line -/
def cSetC (F : Fr) (sc : Scope) (f : Expr → Option E) (g : Scope → Scope → Expr → Option E) (x : Str) (tp : Pos) (elt : Expr) (gens : List Comprehension) (scope : Scope) (pos : Pos) : Option S :=
  if sc.names.lookup x = some .local ∧ swB sc scope x tp.line pos.line = true then (ixOf F.N x).bind fun i => (cComp F sc f g elt gens scope).map fun t => asgOr F i t else none
theorem cSetC_ok (o : XOk X F sc sc G C) (hf : FOk X C f) {g : Scope → Scope → Expr → Option E} (hg : ∀ X' sc' rs', XOk X' F sc' rs' G C → FOk X' C (g sc' rs')) {x : Str} {tp pos spos : Pos} {elt : Expr} {gens : List Comprehension} {scope : Scope} {s : S}
    (h : cSetC F sc f g x tp elt gens scope pos = some s) : SGood X C N W (.Assign [.Name x tp] (.ListComp elt gens scope pos) spos) s := by
  have hN : X.N.Nodup := by rw [o.N]; exact o.nd
  unfold cSetC at h
  split at h
  · rename_i hc
    simp only [Option.bind_eq_some_iff, Option.map_eq_some_iff] at h
    obtain ⟨i, hi, t, ht, rfl⟩ := h
    have hi' : X.N[i]? = some x := by rw [o.N]; exact ixOf_at hi
    obtain ⟨tg, iter, ifs, k, es, tt, cs, el, own, rfl, rfl, p⟩ := cComp_parts o hf hg ht
    obtain ⟨wi, h1, h2⟩ := comp_read p
    refine PS.imp (ps_setLc o.calm hN hi' (by rw [o.hsc]; exact hc.1) (by rw [swaps_name o, hc.2]) h1 p.ok p.tgt p.ifs p.elt p.noS) fun D σ H q => ?_
    exact h2 _ _ _ (asgOr_read q)
  · cases h

/-! ### a, b = x, y -/
def cVals (F : Fr) (f : Expr → Option E) : List Nat → List Expr → Option Es
  | [], [] => some .nil
  | i :: is, e :: es => (cVal F f i e).bind fun t => (cVals F f is es).map fun r => .cons t r
  | _, _ => none
def flags (F : Fr) : List Nat → Es → List (Nat × Bool)
  | i :: is, .cons t r => (i, F.own.contains i && t.fresh) :: flags F is r
  | _, _ => []
theorem flags_fst : ∀ {is : List Nat} {es : List Expr} {t : Es}, cVals F f is es = some t → (flags F is t).map (·.1) = is
  | [], [], _, h => by cases h; rfl
  | [], _ :: _, _, h => by cases h
  | _ :: _, [], _, h => by cases h
  | i :: is, e :: es, _, h => by
    unfold cVals at h
    simp only [Option.bind_eq_some_iff, Option.map_eq_some_iff] at h
    obtain ⟨t, ht, r, hr, rfl⟩ := h
    show i :: (flags F is r).map (·.1) = _
    rw [flags_fst hr]
theorem cVals_ok (hf : FOk X C f) : ∀ {is : List Nat} {es : List Expr} {t : Es}, cVals F f is es = some t → PA X es (TPr X.K C ((flags F is t).map (·.2)) t) ∧ es.all nst = true ∧ es.length = is.length
  | [], [], _, h => by
    cases h
    exact ⟨PA.imp pa_nil fun σ H Q q => TPr.nil q, rfl, rfl⟩
  | [], _ :: _, _, h => by cases h
  | _ :: _, [], _, h => by cases h
  | i :: is, e :: es, _, h => by
    unfold cVals at h
    simp only [Option.bind_eq_some_iff, Option.map_eq_some_iff] at h
    obtain ⟨t, ht, r, hr, rfl⟩ := h
    obtain ⟨h1, h2, h3⟩ := cVals_ok hf hr
    have g := cVal_ok hf ht
    exact ⟨PA.imp (pa_cons g.pe h1 (star_ok g.ns)) fun σ H Q q => TPr.cons q, by rw [List.all_cons, g.ns, h2]; rfl, by simp [h3]⟩
/-- the pure part of the rule of swapped stores -/
def isStar : Expr → Bool
  | .Starred .. => true
  | _ => false
def nmOn (lk : Str → Option NameKind) (line : Nat) : Expr → Option Str
  | .Name id pos => if lk id == some .local && pos.line == line then some id else none
  | _ => none
def lineOf (ts : List Expr) : Nat := (ts.head?.map (·.pos.line)).getD 0
def swN (lk : Str → Option NameKind) (ts vs : List Expr) : Option (Option (List Str)) :=
  if (!(ts.length == 2 || ts.length == 3) || vs.length != ts.length) = true then some none else
  if vs.any isStar = true then some none else
  if ((ts.filterMap (nmOn lk (lineOf ts))).length != ts.length || (ts.filterMap (nmOn lk (lineOf ts))).eraseDups.length != (ts.filterMap (nmOn lk (lineOf ts))).length) = true then some none else
  if vs.all (foldedForSure 8) = true then some none else
  if vs.all (constantsAlone 8) = true then none else some (some (ts.filterMap (nmOn lk (lineOf ts))))
theorem swN_ok (o : XOk X F sc sc G C) {ts vs : List Expr} {k k2 : Nat} {p p2 : Pos} {r : Option (List Str)} (h : swN (fun x => sc.names.lookup x) ts vs = some r) : swappedStores [.Tuple ts k p] (.Tuple vs k2 p2) X.env = pure r := by
  have e1 : X.env.blockKind = .function := by
    show (if X.env.scope.kind.isAnnotationScope then ScopeKind.function else X.env.scope.kind) = _
    rw [o.hsc, o.kind]; rfl
  have e2 : X.env.kindOf = fun x => sc.names.lookup x := by
    funext t
    show X.env.scope.names.lookup t = _
    rw [o.hsc]
  have e : swappedStores [.Tuple ts k p] (.Tuple vs k2 p2) X.env =
    (if (!(ts.length == 2 || ts.length == 3) || vs.length != ts.length || X.env.blockKind != .function) = true then pure none else
      if vs.any isStar = true then pure none else
      if ((ts.filterMap (nmOn X.env.kindOf (lineOf ts))).length != ts.length || (ts.filterMap (nmOn X.env.kindOf (lineOf ts))).eraseDups.length != (ts.filterMap (nmOn X.env.kindOf (lineOf ts))).length) = true then pure none else
      if vs.all (foldedForSure 8) = true then pure none else
      if vs.all (constantsAlone 8) = true then (do unsupported "assign.tuple-of-constant-expressions:order-of-the-stores"; pure (some (ts.filterMap (nmOn X.env.kindOf (lineOf ts))))) else pure (some (ts.filterMap (nmOn X.env.kindOf (lineOf ts))))) := rfl
  rw [e, e1, e2]
  unfold swN at h
  have e3 : (ScopeKind.function != ScopeKind.function) = false := rfl
  rw [e3, Bool.or_false]
  split at h
  · rename_i c
    cases h
    rw [if_pos c]
  · rename_i c
    rw [if_neg c]
    split at h
    · rename_i c2
      cases h
      rw [if_pos c2]
    · rename_i c2
      rw [if_neg c2]
      split at h
      · rename_i c3
        cases h
        exact if_pos c3
      · rename_i c3
        refine (if_neg c3).trans ?_
        split at h
        · rename_i c4
          cases h
          rw [if_pos c4]
        · rename_i c4
          rw [if_neg c4]
          split at h
          · cases h
          · rename_i c5
            cases h
            rw [if_neg c5]
end
end G
namespace G
open PySem PySem.Spec PyProof.Rows L2

section
variable {X : Cx} {F : Fr} {sc : Scope} {G : CEnv} {C : Handler} {f : Expr → Option E} {N : Nat} {W : Nat → Prop}
theorem tArgTPr.mono {fs : List Bool} {es : Es} {σ : St} {H : Hp} {K : PySem.W.Frag} {Q Q' : List V → Hp → Prop} (h : TPr K C fs es σ H Q) (m : ∀ x H1, Q x H1 → Q' x H1) : TPr K C fs es σ H Q' := by
  obtain ⟨B, o, ρ, Kc, r, w, h1, h2, f⟩ := h
  exact ⟨B, o, ρ, Kc, r, w, h1, h2, fun o' H' ρ' ds vs ps x r n q => m _ _ (f o' H' ρ' ds vs ps x r n q)⟩
def locNm (sc : Scope) (e : Expr) : Bool := match e with
  | .Name x _ => decide (sc.names.lookup x = some .local)
  | _ => false
def cPar (F : Fr) (sc : Scope) (f : Expr → Option E) (ts vs : List Expr) : Option S :=
  (ts.mapM (nmSlot F sc sc)).bind fun is => (cVals F f is vs).bind fun es =>
    match swN (fun x => sc.names.lookup x) ts vs with
    | none => none
    | some none => some (.par (flags F is es) es)
    | some (some ns) => match ts with
      | [.Name x _, .Name y _] => if ns = [x, y] ∧ sc.names.lookup x = some .local ∧ sc.names.lookup y = some .local then some (.par (flags F is es) es) else none
      | [.Name x _, .Name y _, .Name z _] => if ns = [x, y, z] ∧ sc.names.lookup x = some .local ∧ sc.names.lookup y = some .local ∧ sc.names.lookup z = some .local then some (.par (flags F is es) es) else none
      | _ => none
theorem flags_snd_len : ∀ {is : List Nat} {es : List Expr} {t : Es}, cVals F f is es = some t → (flags F is t).length = is.length := fun h => by
  have := congrArg List.length (flags_fst h)
  rwa [List.length_map] at this
theorem nm_at (o : XOk X F sc sc G C) {x : Str} {p : Pos} {i : Nat} (h : nmSlot F sc sc (.Name x p) = some i) : X.N[i]? = some x := by
  change (if isLoc sc sc x && plainName x then ixOf F.N x else none) = some i at h
  split at h
  · rw [o.N]; exact ixOf_at h
  · cases h
theorem cPar_ok (o : XOk X F sc sc G C) (hf : FOk X C f) {ts vs : List Expr} {k k2 : Nat} {p p2 pos : Pos} {s : S} (h : cPar F sc f ts vs = some s) : SGood X C N W (.Assign [.Tuple ts k p] (.Tuple vs k2 p2) pos) s := by
  have hN : X.N.Nodup := by rw [o.N]; exact o.nd
  unfold cPar at h
  simp only [Option.bind_eq_some_iff] at h
  obtain ⟨is, his, es, hes, h⟩ := h
  obtain ⟨h1, h2, h3⟩ := cVals_ok hf hes
  have hfst := flags_fst hes
  have hsw : swapsWithSole [.Tuple ts k p] (.Tuple vs k2 p2) pos.line X.env = pure false := by
    show swapsWith (.Tuple vs k2 p2) (some (.Tuple ts k p)) pos.line X.env = pure false
    exact swaps_no rfl
  split at h
  · cases h
  · rename_i hn
    cases h
    obtain ⟨g1, g2, g3, g4⟩ := tgs_ok o his
    refine PS.imp (ps_asg (pe_tup h1) (pg_tup o.calm g1 g2 g3) hsw (swN_ok o hn) rfl) fun D σ H q => ?_
    refine tArgTPr.mono (TSr.parR q) fun vs H1 ⟨nd, e1, e2, _, q⟩ => ⟨e2, fun a ha => ⟨a, vs, rfl, .inl (.inl upd_same), ?_, gNms_of ?_ ?_⟩⟩
    · rw [← e1, flags_snd_len hes]
    · rw [← e1, flags_snd_len hes]
    · rw [hfst] at q; exact q a ha
  · rename_i ns hn
    split at h
    · rename_i x px y py
      split at h
      · rename_i hc
        cases h
        obtain ⟨rfl, hx, hy⟩ := hc
        obtain ⟨i, is1, e1, his1, rfl⟩ := mapM_cons' his
        obtain ⟨j, is2, e2, his2, rfl⟩ := mapM_cons' his1
        cases his2
        have hlen : vs.length = 2 := by rw [h3]; rfl
        match vs, hlen with
        | [a, b], _ =>
          have hi := nm_at o e1
          have hj := nm_at o e2
          by_cases hij : i = j
          · refine ⟨fun pins s σ H D I q => ?_⟩
            exfalso
            obtain ⟨B, o', ρ, kk, r, w, hs, ff⟩ := q
            rw [wpS] at w
            split at w
            · rename_i hp
              unfold parOk at hp
              simp only [Bool.and_eq_true, decide_eq_true_eq] at hp
              rw [hfst] at hp
              have := hp.2.1
              subst hij
              simp at this
            · cases w
          · refine PS.imp (ps_par o.calm hN hi hj hij (by rw [o.hsc]; exact hx) (by rw [o.hsc]; exact hy) h1 (swN_ok o hn) hsw) fun D σ H q => ?_
            refine tArgTPr.mono (TSr.parR q) fun vs H1 ⟨nd, e1, e2, q, _⟩ => ?_
            rw [flags_snd_len hes] at e1
            rw [hfst] at q
            match vs, e1 with
            | [v, w], _ => exact ⟨v, w, rfl, q⟩
      · cases h
    · rename_i x px y py z pz
      split at h
      · rename_i hc
        cases h
        obtain ⟨rfl, hx, hy, hz⟩ := hc
        obtain ⟨i, is1, e1, his1, rfl⟩ := mapM_cons' his
        obtain ⟨j, is2, e2, his2, rfl⟩ := mapM_cons' his1
        obtain ⟨l, is3, e3, his3, rfl⟩ := mapM_cons' his2
        cases his3
        have hlen : vs.length = 3 := by rw [h3]; rfl
        match vs, hlen with
        | [a, b, c], _ =>
          have hi := nm_at o e1
          have hj := nm_at o e2
          have hl := nm_at o e3
          by_cases nd : i ≠ j ∧ i ≠ l ∧ j ≠ l
          · refine PS.imp (ps_par3 o.calm hN hi hj hl nd.1 nd.2.1 nd.2.2 (by rw [o.hsc]; exact hx) (by rw [o.hsc]; exact hy) (by rw [o.hsc]; exact hz) h1 (swN_ok o hn) hsw) fun D σ H q => ?_
            refine tArgTPr.mono (TSr.parR q) fun vs H1 ⟨nd, e1, e2, q, _⟩ => ?_
            rw [flags_snd_len hes] at e1
            rw [hfst] at q
            match vs, e1 with
            | [u, v, w], _ => exact ⟨u, v, w, rfl, q⟩
          · refine ⟨fun pins s σ H D I q => ?_⟩
            exfalso
            obtain ⟨B, o', ρ, kk, r, w, hs, ff⟩ := q
            rw [wpS] at w
            split at w
            · rename_i hp
              unfold parOk at hp
              simp only [Bool.and_eq_true, decide_eq_true_eq] at hp
              rw [hfst] at hp
              have := hp.2.1
              simp at this
              exact nd ⟨this.1.1, this.1.2, this.2⟩
            · cases w
      · cases h
    · cases h

/-! ### statements -/
def cPut (F : Fr) (sc : Scope) (f : Expr → Option E) (x : Str) (i v : Expr) : Option S := (slotOf F sc x).bind fun s => (f i).bind fun k => (f v).map fun e => .put s k e
theorem cPut_ok (o : XOk X F sc sc G C) (hf : FOk X C f) {x : Str} {i v : Expr} {np sp pos : Pos} {s : S} (h : cPut F sc f x i v = some s) : SGood X C N W (.Assign [.Subscript (.Name x np) i sp] v pos) s := by
  unfold cPut at h
  simp only [Option.bind_eq_some_iff, Option.map_eq_some_iff] at h
  obtain ⟨j, hj, k, hk, e, he, rfl⟩ := h
  exact PS.imp (ps_putR (by have := o.units; omega) (pe_slot o hj) (hf _ _ hk).pe (hf _ _ he).pe swaps_sub) fun D σ H q => TSr.putR q
def cApp (F : Fr) (sc : Scope) (f : Expr → Option E) (x : Str) (e : Expr) (apos cpos : Pos) : Option S := if (apos.endLine == cpos.line) = true then (slotOf F sc x).bind fun i => (f e).map fun t => .app i t else none
theorem cApp_ok (o : XOk X F sc sc G C) (hf : FOk X C f) {x : Str} {e : Expr} {np apos cpos pos : Pos} {s : S} (h : cApp F sc f x e apos cpos = some s) : SGood X C N W (.Expr (.Call (.Attribute (.Name x np) ("append" : Str) apos) [e] [] cpos) pos) s := by
  unfold cApp at h
  split at h
  · rename_i hl
    simp only [Option.bind_eq_some_iff, Option.map_eq_some_iff] at h
    obtain ⟨i, hi, t, ht, rfl⟩ := h
    have g := hf _ _ ht
    exact PS.imp (ps_expr (pe_bm PySem.F.plainAttrs_list PySem.F.slot_list_append PySem.F.type_list_append mt_append (pe_slot o hi) (pa_cons g.pe pa_nil (star_ok g.ns)) rfl (few_ok g.ns) hl (star_ok g.ns) rfl) (swaps_no rfl)) fun D σ H q => TSr.appR q
  · cases h
def cSs (cs : Stmt → Option S) : List Stmt → Option S
  | [] => some .skip
  | st :: r => (cs st).bind fun s => (cSs cs r).map fun t => .seq s t
theorem cSs_ok {cs : Stmt → Option S} (hs : ∀ st s, cs st = some s → SGood X C N W st s) : ∀ {l : List Stmt} {s : S}, cSs cs l = some s → PSs X l (TSr X.K C N W s)
  | [], _, h => by cases h; exact PSs.imp pss_nil fun D σ H q => TSr.skipR q
  | st :: r, _, h => by
    unfold cSs at h
    simp only [Option.bind_eq_some_iff, Option.map_eq_some_iff] at h
    obtain ⟨s, h1, t, h2, rfl⟩ := h
    exact PSs.imp (pss_cons (hs _ _ h1) (cSs_ok hs h2)) fun D σ H q => TSr.seqR q
def cS1 (G : CEnv) (F : Fr) (sc : Scope) (f : Expr → Option E) (g : Scope → Scope → Expr → Option E) (cs : Stmt → Option S) : Stmt → Option S
  | .Assign [.Name x tp] (.ListComp elt gens scope pos) _ => (match cSetC F sc f g x tp elt gens scope pos with
    | some s => some s
    | none => cSet F sc f x tp (.ListComp elt gens scope pos))
  | .Assign [.Name x tp] e _ => cSet F sc f x tp e
  | .Assign [.Tuple ts _ _] (.Tuple vs _ _) _ => cPar F sc f ts vs
  | .Assign [.Tuple ts k p] e _ => if noComp e && !isTupE e then (cTgt F sc sc (.Tuple ts k p)).bind fun t => (f e).map fun x => .asg t x else none
  | .Assign [.Subscript (.Name x _) i _] v _ => cPut F sc f x i v
  | .Expr (.Call (.Attribute (.Name x np) m apos) [e] [] cpos) _ => if m = ("append" : Str) then cApp F sc f x e apos cpos else none
  | .Expr e _ => if noComp e then (f e).map .exp else none
  | .If c a b _ => (f c).bind fun x => (cSs cs a).bind fun y => (cSs cs b).map fun z => .ife x y z
  | .While c b [] _ => (f c).bind fun x => (cSs cs b).map fun y => .whl x y
  | .For tg iter b [] _ => if noSet iter then (cTgt F sc sc tg).bind fun t => (cSrc sc f tg iter).bind fun ks => (cSs cs b).map fun y => .for_ ks.1 ks.2 t y else none
  | .Return (some e) _ => (f e).map .ret
  | .Return none _ => some (.ret (.cst .none))
  | .Raise .. => some .stuck
  | .Pass _ => some .skip
  | .Break _ => some .brk
  | .Continue _ => some .cnt
  | _ => none
theorem sole_swaps {t e : Expr} {l : Nat} {env : PySem.Env} (h : noComp e = true) : swapsWithSole [t] e l env = pure false := by
  show swapsWith e (some t) l env = pure false
  exact swaps_no h
theorem sole_none {t e : Expr} {env : PySem.Env} (h : (!isTupE e) = true) : swappedStores [t] e env = pure none := by
  cases t <;> cases e <;> first | rfl | cases h
theorem cS1_ok (o : XOk X F sc sc G C) (hf : FOk X C f) {g : Scope → Scope → Expr → Option E} (hg : ∀ X' sc' rs', XOk X' F sc' rs' G C → FOk X' C (g sc' rs')) {cs : Stmt → Option S} (hs : ∀ st s, cs st = some s → SGood X C N W st s) :
    ∀ st s, cS1 G F sc f g cs st = some s → SGood X C N W st s := by
  have hp : PassesOwn (model X.prog X.w) X.A X.env X.xe := by rw [o.pass]; exact PassesOwn.never
  intro st s h
  unfold cS1 at h
  split at h
  · split at h
    · rename_i hh; cases h; exact cSetC_ok o hf hg hh
    · exact cSet_ok o hf h
  · exact cSet_ok o hf h
  · exact cPar_ok o hf h
  · split at h
    · rename_i hc
      rw [Bool.and_eq_true] at hc
      simp only [Option.bind_eq_some_iff, Option.map_eq_some_iff] at h
      obtain ⟨t, ht, x, hx, rfl⟩ := h
      exact PS.imp (ps_asg (hf _ _ hx).pe (cTgt_ok o ht) (sole_swaps hc.1) (sole_none hc.2) rfl) fun D σ H q => TSr.asgR q
    · cases h
  · exact cPut_ok o hf h
  · split at h
    · rename_i hm
      subst hm
      exact cApp_ok o hf h
    · cases h
  · split at h
    · rename_i hc
      simp only [Option.map_eq_some_iff] at h
      obtain ⟨x, hx, rfl⟩ := h
      exact PS.imp (ps_expr (hf _ _ hx).pe (swaps_no hc)) fun D σ H q => TSr.expR q
    · cases h
  · simp only [Option.bind_eq_some_iff, Option.map_eq_some_iff] at h
    obtain ⟨x, hx, y, hy, z, hz, rfl⟩ := h
    exact PS.imp (ps_if (hf _ _ hx).pt (cSs_ok hs hy) (cSs_ok hs hz)) fun D σ H q => TSr.ifeR q
  · simp only [Option.bind_eq_some_iff, Option.map_eq_some_iff] at h
    obtain ⟨x, hx, y, hy, rfl⟩ := h
    exact PS.imp (ps_while hp (hf _ _ hx).pt (cSs_ok hs hy)) fun D σ H q => TSr.whlR q
  · split at h
    · rename_i hc
      simp only [Option.bind_eq_some_iff, Option.map_eq_some_iff] at h
      obtain ⟨t, ht, ks, hks, y, hy, rfl⟩ := h
      obtain ⟨WR, h1, h2⟩ := cSrc_ok o hf (show cSrc sc f _ _ = some (ks.1, ks.2) from hks)
      exact PS.imp (ps_for hp o.calm h2 (cTgt_ok o ht) (cSs_ok hs hy) (noSet_iff hc _)) fun D σ H q => TSr.forR h1 q
    · cases h
  · simp only [Option.map_eq_some_iff] at h
    obtain ⟨x, hx, rfl⟩ := h
    exact PS.imp (ps_ret (hf _ _ hx).pe) fun D σ H q => TSr.retR q
  · cases h; exact PS.imp ps_retN fun D σ H q => TSr.retN q
  · cases h; exact PS.imp ps_never fun D σ H q => TSr.stuckR q
  · cases h; exact PS.imp ps_pass fun D σ H q => TSr.skipR q
  · cases h; exact PS.imp ps_break fun D σ H q => TSr.brkR q
  · cases h; exact PS.imp ps_continue fun D σ H q => TSr.cntR q
  · cases h
def cS (G : CEnv) (F : Fr) (sc : Scope) (m : Nat) : Nat → Stmt → Option S
  | 0, _ => none
  | n + 1, st => cS1 G F sc (cE G F m sc) (fun sc' _ => cE G F m sc') (cS G F sc m n) st
theorem cS_ok (o : XOk X F sc sc G C) {m : Nat} : ∀ (n : Nat) (st : Stmt) (s : S), cS G F sc m n st = some s → SGood X C N W st s
  | 0, _, _, h => by cases h
  | n + 1, st, s, h => cS1_ok o (cE_ok m o) (fun X' sc' rs' o' => cE_ok m o') (cS_ok o n) st s h
end
end G
namespace G
open PySem PySem.Spec PyProof.Rows L2

section
variable {K : PySem.W.Frag} {B : Addr → Prop} {o o' : Nat → Option Addr} {H H' : Hp} {σ σ' : St} {ρ ρ' : Env} {C : Handler}
theorem Rep.extend (r : Rep K B o σ H ρ) (n : Nat) : Rep K B o (σ ++ List.replicate n none) H (ρ ++ List.replicate n Slot.none) := by
  refine ⟨by rw [List.length_append, List.length_append, r.len, List.length_replicate, List.length_replicate], fun i s e => ?_, fun i h => r.out i (by rw [List.length_append] at h; omega), r.inj, r.low, fun i s a e1 e2 e3 => ?_⟩
  · by_cases hi : i < ρ.length
    · rw [List.getElem?_append_left hi] at e
      rw [List.getElem?_append_left (by rw [← r.len]; exact hi)]
      exact r.slot i s e
    · rw [List.getElem?_append_right (by omega), List.getElem?_replicate] at e
      split at e
      · cases e
        rw [r.out i (by omega)]
        exact .none
      · cases e
  · by_cases hi : i < ρ.length
    · rw [List.getElem?_append_left hi] at e1
      exact r.free i s a e1 e2 e3
    · rw [r.out i (by omega)] at e2; cases e2
theorem lentOk_at {d : Fn} : ∀ {ss : List Slot} {k : Nat}, lentOk d k ss = true → ∀ i s, ss[i]? = some s → (∃ v, s = .val v) ∨ (k + i) ∈ d.lent
  | [], _, _, i, s, e => by simp at e
  | s0 :: r, k, h, 0, s, e => by
    simp at e
    subst e
    cases s0 with
    | val v => exact .inl ⟨v, rfl⟩
    | _ =>
      simp only [lentOk, Bool.and_eq_true] at h
      exact .inr (by simpa using h.1)
  | s0 :: r, k, h, i + 1, s, e => by
    have h' : lentOk d (k + 1) r = true := by
      cases s0 with
      | val v => exact h
      | _ => simp only [lentOk, Bool.and_eq_true] at h; exact h.2
    have := lentOk_at h' i s (by simpa using e)
    rwa [Nat.add_assoc, Nat.add_comm 1 i] at this
theorem outs_at : ∀ {ss : List Slot} {ρ : Env} {os : List Slot}, outs ss ρ = some os → os.length = ss.length ∧ ∀ (i : Nat) (t : Slot), os[i]? = some t → (∃ v : AV, ss[i]? = some (Slot.val v) ∧ t = Slot.val v) ∨ ∃ s : Slot, ss[i]? = some s ∧ ρ[i]? = some t ∧ sameKind s t = true
  | [], _, os, e => by cases e; exact ⟨rfl, fun i t e => by simp at e⟩
  | s :: ss, [], os, e => by cases s <;> cases e
  | s :: ss, t :: ρ, os, e => by
    have gen : ∀ {x : Slot} {os : List Slot}, (outs ss ρ).map (x :: ·) = some os → ∃ r, outs ss ρ = some r ∧ os = x :: r := fun {x os} e => by
      cases q : outs ss ρ with
      | none => rw [q] at e; cases e
      | some r => rw [q] at e; cases e; exact ⟨r, rfl, rfl⟩
    by_cases hv : ∃ v, s = .val v
    · obtain ⟨v, rfl⟩ := hv
      obtain ⟨r, h1, rfl⟩ := gen (show (outs ss ρ).map (Slot.val v :: ·) = some os from e)
      obtain ⟨h2, h3⟩ := outs_at h1
      refine ⟨by simp [h2], fun i u e => ?_⟩
      cases i with
      | zero => simp at e; exact .inl ⟨v, rfl, e.symm⟩
      | succ i => simpa using h3 i u (by simpa using e)
    · have e' : (if sameKind s t then (outs ss ρ).map (t :: ·) else none) = some os := by
        cases s with
        | val v => exact absurd ⟨v, rfl⟩ hv
        | _ => exact e
      split at e'
      · rename_i hk
        obtain ⟨r, h1, rfl⟩ := gen e'
        obtain ⟨h2, h3⟩ := outs_at h1
        refine ⟨by simp [h2], fun i u e => ?_⟩
        cases i with
        | zero => simp at e; subst e; exact .inr ⟨s, rfl, rfl, hk⟩
        | succ i => simpa using h3 i u (by simpa using e)
      · cases e'
theorem same_own {s t : Slot} {A : Addr → Prop} {sv : Option (Option V)} {oa : Option Addr} (h : sameKind s t = true) (r : SlotR K A H t sv oa) : ∃ a, oa = some a := by
  cases r with
  | none => cases s <;> cases h
  | val rv => cases s <;> cases h
  | own e c => exact ⟨_, rfl⟩
theorem same_own' {s t : Slot} {A : Addr → Prop} {sv : Option (Option V)} {oa : Option Addr} (h : sameKind s t = true) (r : SlotR K A H s sv oa) : ∃ a, oa = some a := by
  cases r with
  | none => cases t <;> cases h
  | val rv => cases t <;> cases h
  | own e c => exact ⟨_, rfl⟩
/-- the end of a def's body, for its caller -/
theorem end_ok {d : Fn} {ss os : List Slot} {vs : List V} {n : Nat} (r : Rep K B o (vs.map some) H ss) (hd : d.ok = true) (hl : lentOk d 0 ss = true) (m : Mv (fun j => j ∈ d.body.sets) o (vs.map some ++ List.replicate n none) H o' σ' H')
    (r' : Rep K B o' σ' H' ρ') (ho : outs ss ρ' = some os) : Ext0 o H o H' ∧ Rep K B o (vs.map some) H' os ∧ ∀ a, Av B o a → Av B o' a := by
  obtain ⟨h1, h2⟩ := outs_at ho
  have noW : ∀ i s, ss[i]? = some s → (¬ ∃ v, s = .val v) → i ∉ d.body.sets := fun i s e n z => by
    rcases lentOk_at hl i s e with h | h
    · exact n h
    · rw [Nat.zero_add] at h
      unfold Fn.ok at hd
      have := List.all_eq_true.mp hd i h
      simp at this
      exact this z
  -- what is lent stands where it stood
  have keepO : ∀ i s t, ss[i]? = some s → ρ'[i]? = some t → sameKind s t = true → ∃ a, o i = some a ∧ o' i = some a := fun i s t e1 e2 hk => by
    obtain ⟨a, ha⟩ := same_own hk (r'.slot i t e2)
    rcases m.ext.own i a ha with z | ⟨z, _⟩
    · exact ⟨a, z, ha⟩
    · refine absurd z (noW i s e1 fun ⟨v, e⟩ => ?_)
      subst e
      cases t <;> cases hk
  have lenS : ss.length = vs.length := by have := r.len; rwa [List.length_map] at this
  have inc : ∀ a, Av B o a → Av B o' a := fun a h => by
    rcases h with h | ⟨i, h⟩
    · exact .inl h
    · obtain ⟨s, x, e1, _, _, c⟩ := r.ownAt h
      have hi : i < os.length := by rw [h1]; exact (List.getElem?_eq_some_iff.mp e1).1
      rcases h2 i os[i] (by simp [hi]) with ⟨v, e2, _⟩ | ⟨s', e2, e3, hk⟩
      · rw [e1] at e2; cases e2; cases c
      · obtain ⟨b, hb, hb'⟩ := keepO i s' _ e2 e3 hk
        rw [h] at hb; cases hb
        exact .inr ⟨i, hb'⟩
  have x : Ext0 o H o H' := ⟨m.ext.keep, m.ext.there, fun i a e => .inl e⟩
  refine ⟨x, ⟨by rw [h1]; exact r.len, fun i t e => ?_, fun i h => r.out i (by rw [h1] at h; exact h), r.inj, fun a h => m.ext.there a (r.low a h), fun i t a e1 e2 e3 => ?_⟩, inc⟩
  · rcases h2 i t e with ⟨v, e1, rfl⟩ | ⟨s, e1, e2, hk⟩
    · have q := r.slot i _ e1
      generalize hoi : o i = oa at q
      generalize hsv : (vs.map some)[i]? = sv at q
      cases q with
      | val rv => exact .val (rv.mono fun b y e n => ⟨m.ext.keep b y e fun j z => n (.inr ⟨j, z⟩), n⟩)
      | own _ c => cases c
    · obtain ⟨a, ha, ha'⟩ := keepO i s t e1 e2 hk
      have q := r'.slot i t e2
      rw [ha'] at q
      have hs : σ'[i]? = (vs.map some)[i]? := by
        have hi : i < vs.length := by rw [← lenS]; exact (List.getElem?_eq_some_iff.mp e1).1
        rw [m.same i (noW i s e1 fun ⟨v, e⟩ => by subst e; cases t <;> cases hk), List.getElem?_append_left (by rw [List.length_map]; exact hi)]
      rw [hs] at q
      rw [ha]
      exact q.mono (fun b y e n => ⟨e, fun z => n (inc b z)⟩) fun _ _ _ e => e
  · rcases h2 i t e1 with ⟨v, e4, rfl⟩ | ⟨s, e4, e5, hk⟩
    · have q := r.slot i _ e4
      rw [e2] at q
      generalize hsv : (vs.map some)[i]? = sv at q
      cases q with
      | own _ c => cases c
    · obtain ⟨b, hb, hb'⟩ := keepO i s t e4 e5 hk
      rw [e2] at hb; cases hb
      exact r'.free i t a e5 hb' e3
end

/-! ### all defs at once -/
/-- a def of the text with its term -/
structure DefAt (K : PySem.W.Frag) (mg : Str → Option Value) (G : CEnv) (P : List Fn) (j : Nat) (f : Addr) (fd : FuncData) (ps N : List Str) : Prop where
  ex : ∃ (x qual : Str) (st : Stmt) (F : Fr) (d : Fn) (m : Nat), Fun K x qual st f fd ∧ FnScope N ps (defScope st) ∧ F.N = N ∧ P[j]? = some d ∧ d.ar = ps.length ∧ d.ns = N.length ∧ d.ok = true ∧ cSs (cS G F (defScope st) m m) (defBody st) = some d.body
  binds : Binds K fd ps []
  keep : PySem.W.keepIn K (.ref f) = true
section
variable {P : Program} {w : World} {K : PySem.W.Frag} {mg : Str → Option Value} {base : Heap}
theorem xok_of {N : List Str} {qual : Str} {sc : Scope} {ps : List Str} {f : Addr} {cdv : Value} {A : Around} {outer : List PySem.Env} {s : Shared} {H : Hp} {E : XK} {F : Fr} {G : CEnv} {C : Handler} {k : Nat} (S : FnScope N ps sc) (hF : F.N = N)
    (hr : Room k (A.deeper (envOfC qual sc s.heap.objs.size f cdv))) (T : TabOk G C P w K mg base (A.deeper (envOfC qual sc s.heap.objs.size f cdv))) :
    XOk (cxOf CX0 P w K mg base N qual sc f cdv A outer s H E).nox F sc sc G C where
  calm := rfl
  N := hF.symm
  nd := hF ▸ S.nd
  hsc := rfl
  kind := S.kind
  fn := fun _ _ => rfl
  units := by have := hr.un; show (A.deeper (envOfC qual sc s.heap.objs.size f cdv)).units + 80 < cLine; omega
  pass := rfl
  tab := T
/-- what the module's tables promise, at every depth -/
structure ModOk (P : Program) (w : World) (K : PySem.W.Frag) (mg : Str → Option Value) (base : Heap) (G : CEnv) (Fs : List Fn) (fa : List Addr) (fds : List FuncData) (pss Ns : List (List Str)) : Prop where
  vals : ∀ x d, G.vals.lookup x = some d → ∃ u v, mg x = some u ∧ RelV v u ∧ ∀ A H, RV K A H d v
  blt : ∀ x, x ∈ bltNames → mg x = none
  funs : ∀ x j ls, G.funs.lookup x = some (j, ls) → ∃ f fd ps N, fa[j]? = some f ∧ fds[j]? = some fd ∧ pss[j]? = some ps ∧ Ns[j]? = some N ∧ mg x = some (.ref f)
  defs : ∀ j f fd ps N, fa[j]? = some f → fds[j]? = some fd → pss[j]? = some ps → Ns[j]? = some N → DefAt K mg G Fs j f fd ps N
  roll : ∀ x, G.roll = some x → ∃ f fd ps, FnOk P w K mg base CX0 1 f fd ps spRoll ∧ mg x = some (.ref f) ∧ PySem.W.keepIn K (.ref f) = true ∧ Binds K fd ps []
theorem ModOk.tab {G : CEnv} {Fs : List Fn} {fa : List Addr} {fds : List FuncData} {pss Ns : List (List Str)} {N k : Nat} {A : Around} (M : ModOk P w K mg base G Fs fa fds pss Ns) (hr : Room (k + 1) A)
    (ih : ∀ j f fd ps Nn, fa[j]? = some f → fds[j]? = some fd → pss[j]? = some ps → Ns[j]? = some Nn → FnOk P w K mg base CX0 (k + 1) f fd ps (spA K (wpF Fs N k) j)) : TabOk G (wpF Fs N k) P w K mg base A where
  vals := M.vals
  blt := M.blt
  funs := fun x j ls h => by
    obtain ⟨f, fd, ps, Nn, h1, h2, h3, h4, hm⟩ := M.funs x j ls h
    have D := M.defs j f fd ps Nn h1 h2 h3 h4
    exact ⟨k + 1, f, fd, ps, ih j f fd ps Nn h1 h2 h3 h4, hr, hm, D.keep, D.binds⟩
  roll := fun x hx => by
    obtain ⟨f, fd, ps, h1, h2, h3, h4⟩ := M.roll x hx
    exact ⟨1, f, fd, ps, h1, hr.mono (by omega), h2, h3, h4⟩
theorem defs_ok {G : CEnv} {Fs : List Fn} {fa : List Addr} {fds : List FuncData} {pss Ns : List (List Str)} {N : Nat} (M : ModOk P w K mg base G Fs fa fds pss Ns) : ∀ (k : Nat) (j : Nat) (f : Addr) (fd : FuncData) (ps Nn : List Str),
    fa[j]? = some f → fds[j]? = some fd → pss[j]? = some ps → Ns[j]? = some Nn → FnOk P w K mg base CX0 (k + 1) f fd ps (spA K (wpF Fs N k) j)
  | 0, j, f, fd, ps, Nn, h1, h2, h3, h4 => by
    refine ⟨fun vs H Q E ⟨B, o, ss, Kc, r, w, _⟩ => ?_, fun A outer s H args us vs Q E hr e0 hb r ⟨B, o, ss, Kc, rr, w, _⟩ => ?_⟩
    · cases w
    · cases w
  | k + 1, j, f, fd, ps, Nn, h1, h2, h3, h4 => by
    have ih := defs_ok (N := N) M k
    obtain ⟨x, qual, st, F, d, m, FF, S, hF, hd, har, hns, hok, hc⟩ := (M.defs j f fd ps Nn h1 h2 h3 h4).ex
    have lenOf : ∀ {vs H Q} {E : XK}, spA K (wpF Fs N (k + 1)) j vs H Q E → vs.length = ps.length := fun {vs H Q E} ⟨B, o, ss, Kc, r, wq, _⟩ => by
      rw [wpF] at wq
      simp only [hd] at wq
      split at wq
      · rename_i hh
        have := r.len
        rw [List.length_map] at this
        rw [← this, hh.1, har]
      · cases wq
    refine FF.ok S (fun vs H Q E q => lenOf q) fun cdv A outer s H vs Q E hr q => ?_
    have hl := lenOf q
    obtain ⟨B, o, ss, Kc, r, wq, fin⟩ := q
    rw [wpF] at wq
    simp only [hd] at wq
    split at wq
    · rename_i hh
      obtain ⟨g1, g2, g3⟩ := hh
      have o' := xok_of (P := P) (w := w) (mg := mg) (base := base) (outer := outer) (s := s) (H := H) (E := E) (C := wpF Fs N k) (G := G) S hF hr (M.tab hr ih)
      refine ⟨_, cSs_ok (X := (cxOf CX0 P w K mg base Nn qual (defScope st) f cdv A outer s H E).nox) (N := N) (W := fun j => j ∈ d.body.sets) (fun st' s' h => cS_ok o' m st' s' h) hc, ?_⟩
      have hst : L2.start Nn vs = vs.map some ++ List.replicate (d.ns - d.ar) none := by
        unfold L2.start
        rw [hns, har, hl]
      have r2 := r.extend (d.ns - d.ar)
      refine ⟨B, o, _, _, hst ▸ r2, wq, fun j h => h, ⟨fun o1 σ1 H1 ρ1 m1 r1 q => ?_, fun o1 σ1 H1 ρ1 m1 r1 q => (by cases q), fun o1 σ1 H1 ρ1 m1 r1 q => (by cases q), fun o1 σ1 H1 ρ1 dd v m1 r1 rv q => ?_⟩⟩
      · cases ho : outs ss ρ1 with
        | none => simp only [ho] at q; cases q
        | some os =>
          simp only [ho] at q
          rw [hst] at m1
          obtain ⟨e1, e2, e3⟩ := end_ok r hok g3 m1 r1 ho
          exact fin _ _ _ _ e1 e2 .non q
      · cases ho : outs ss ρ1 with
        | none => simp only [ho] at q; cases q
        | some os =>
          simp only [ho] at q
          rw [hst] at m1
          obtain ⟨e1, e2, e3⟩ := end_ok r hok g3 m1 r1 ho
          exact fin _ _ _ _ e1 e2 (rv.mono fun b y e n => ⟨e, fun z => n (e3 b z)⟩) q
    · cases wq
end
end G
namespace G
open PySem PySem.Spec PyProof.Rows L2

/-! ### the cup of draws: its two defs -/
def rollS : S := (.seq (.ife (.prim .gt (.cons (.prim .ix (.pk 0 (.cons (.cst (.int 0)) .nil))) (.cons (.cst (.int 0)) .nil))) (.seq (.asg (.nm 2) (.prim .mod (.cons (.prim .int1 (.cons (.prim .ix (.pk 0 (.cons (.cst (.int 0)) .nil))) .nil)) (.cons (.var 1) .nil)))) (.seq (.put 0 (.cst (.int 0)) (.prim .fdiv (.cons (.prim .ix (.pk 0 (.cons (.cst (.int 0)) .nil))) (.cons (.var 1) .nil)))) (.seq (.ret (.var 2)) .skip))) .skip) (.seq (.put 0 (.cst (.int 1)) (.prim .mod (.cons (.prim .int1 (.cons (.prim .add (.cons (.prim .mul (.cons (.prim .ix (.pk 0 (.cons (.cst (.int 1)) .nil))) (.cons (.cst (.int 30011)) .nil))) (.cons (.cst (.int 9001)) .nil))) .nil)) (.cons (.cst (.int 2147483543)) .nil)))) (.seq (.asg (.nm 3) (.prim .mod (.cons (.prim .int1 (.cons (.prim .mul (.cons (.prim .ix (.pk 0 (.cons (.cst (.int 1)) .nil))) (.cons (.prim .add (.cons (.prim .ix (.pk 0 (.cons (.cst (.int 1)) .nil))) (.cons (.cst (.int 293)) .nil))) .nil))) .nil)) (.cons (.cst (.int 2147483587)) .nil)))) (.seq (.ret (.prim .mod (.cons (.prim .int1 (.cons (.prim .fdiv (.cons (.var 3) (.cons (.cst (.int 883)) .nil))) .nil)) (.cons (.var 1) .nil)))) .skip))))
def cupS : S := (.seq (.asg (.nm 1) (.prim .abs (.cons (.prim .ix (.cons (.prim .add (.cons (.prim .lstOf (.cons (.var 0) .nil)) (.cons (.disp (.cons (.cst (.int 0)) .nil)) .nil))) (.cons (.cst (.int 0)) .nil))) .nil))) (.seq (.ret (.disp (.cons (.ife (.prim .ge (.cons (.var 1) (.cons (.prim .pow (.cons (.cst (.int 10)) (.cons (.cst (.int 18)) .nil))) .nil))) (.prim .fdiv (.cons (.var 1) (.cons (.cst (.int 113)) .nil))) (.cst (.int 0))) (.cons (.prim .add (.cons (.prim .mod (.cons (.prim .int1 (.cons (.prim .add (.cons (.prim .mul (.cons (.var 1) (.cons (.cst (.int 367)) .nil))) (.cons (.cst (.int 5303)) .nil))) .nil)) (.cons (.cst (.int 1984129399)) .nil))) (.cons (.cst (.int 227)) .nil))) .nil)))) .skip))
def rollRt (n : Int) : AV → Env → Bool := fun d ρ => match d, ρ[0]? with
  | .int r, some (Slot.olst _ [.int d0, .int d1]) => decide (0 ≤ r ∧ r < n ∧ 0 ≤ d0 ∧ 0 ≤ d1 ∧ d1 < 2 ^ 32)
  | _, _ => false
theorem log_small {n : Int} (h0 : 0 < n) (h : n < 2 ^ 200) : n.natAbs.log2 < 9000 := by
  have h1 : n.natAbs < 2 ^ 200 := by omega
  have := (Nat.log2_lt (by omega)).mpr h1
  omega
theorem roll_wp {C : Handler} {N : Nat} {c0 c1 n : Int} (h0 : 0 ≤ c0) (h1 : 0 ≤ c1) (h2 : c1 < 2 ^ 32) (n0 : 0 < n) (n1 : n < 2 ^ 200) :
    wpS C N rollS [.olst true [.int c0, .int c1], .val (.int n), .none, .none] { nx := fun _ => false, rt := rollRt n } = true := by
  have hd : divOk n = true := by
    unfold divOk
    simp [n0, log_small n0 n1]
  have m1 : mulOk c1 30011 = true := by
    unfold mulOk big
    simp
  have e1 : L2.atI [PyData.int c0, PyData.int c1] 0 = some (.int c0) := rfl
  have e2 : L2.atI [PyData.int c0, PyData.int c1] 1 = some (.int c1) := rfl
  simp only [rollS, wpS, wpE, wpEs, peek, readVar, List.getElem?_cons_zero, List.getElem?_cons_succ, Prim.pkOk, Option.isSome_some, Bool.and_self, if_true, primS, ixS, atL, e1, cmpI, truthy, e2, n0, decide_true, hd, m1, mulS, addS, Option.map_some]
  by_cases hc : 0 < c0
  · simp [hc, assign, hd, n0, rollRt, L2.ixN, peek, readVar, e1, primS, ixS, atL]
    exact ⟨Int.emod_nonneg _ (by omega), Int.emod_lt_of_pos _ n0, Int.ediv_nonneg h0 (by omega), h1, h2⟩
  · have d883 : divOk 883 = true := by decide +kernel
    have m2 : ∀ z : Int, mulOk ((c1 * 30011 + 9001) % 2147483543) z = true := fun z => by
      have a := Int.emod_nonneg (c1 * 30011 + 9001) (show (2147483543 : Int) ≠ 0 by decide)
      have b := Int.emod_lt_of_pos (c1 * 30011 + 9001) (show (0 : Int) < 2147483543 by decide)
      unfold mulOk big
      simp; left; left; omega
    simp [hc, assign, hd, n0, rollRt, L2.ixN, peek, readVar, e1, primS, ixS, atL, L2.atI, m2, mulS, addS, d883]
    have a := Int.emod_nonneg (c1 * 30011 + 9001) (show (2147483543 : Int) ≠ 0 by decide)
    have b := Int.emod_lt_of_pos (c1 * 30011 + 9001) (show (0 : Int) < 2147483543 by decide)
    exact ⟨Int.emod_nonneg _ (by omega), Int.emod_lt_of_pos _ n0, h0, a, by omega⟩
/-- the answer of the cup's def -/
def cupRt : AV → Env → Bool := fun d _ => match d with
  | .list [.int c0, .int c1] => decide (0 ≤ c0 ∧ 0 ≤ c1 ∧ c1 < 2 ^ 32)
  | _ => false
theorem cup_wp {C : Handler} {N : Nat} {ns : List Int} (hn : ns.length ≤ 63) : wpS C N cupS [.val (.list (ns.map .int)), .none] { nx := fun _ => false, rt := cupRt } = true := by
  have hf : fit (ns.map PyData.int ++ [.int 0]) = some (ns.map PyData.int ++ [.int 0]) := by
    unfold fit sz
    rw [if_pos (by simp; omega)]
  have h0 : ∃ i, L2.atI (ns.map PyData.int ++ [.int 0]) 0 = some (.int i) := by
    cases ns with
    | nil => exact ⟨0, rfl⟩
    | cons n r => exact ⟨n, by
        have : L2.ixN ((n :: r).map PyData.int ++ [PyData.int 0]).length 0 = some 0 := by
          unfold L2.ixN
          rw [if_pos (by decide), if_pos (by simp; omega)]; rfl
        unfold L2.atI
        rw [this]; rfl⟩
  obtain ⟨i, hi⟩ := h0
  have d113 : divOk 113 = true := by decide +kernel
  have m : ∀ z : Int, mulOk z 367 = true := fun z => by unfold mulOk big; simp
  have p18 : ((10 : Int) ^ 18) = 1000000000000000000 := by decide
  have key : ∀ z : Int, 0 ≤ z → (0 ≤ z / 113) ∧ 0 ≤ (z * 367 + 5303) % 1984129399 ∧ (z * 367 + 5303) % 1984129399 < 1984129399 := fun z h => ⟨by omega, Int.emod_nonneg _ (by decide), Int.emod_lt_of_pos _ (by decide)⟩
  have ha : 0 ≤ (if i < 0 then -i else i) := by split <;> omega
  generalize hz : (if i < 0 then -i else i) = z at ha
  obtain ⟨k1, k2, k3⟩ := key z ha
  have hb : ns.length ≤ 16777215 := by omega
  simp [cupS, wpS, wpE, hb, wpEs, readVar, Prim.pkOk, primS, addS, hf, ixS, atL, hi, hz, assign, cmpI, truthy, m, mulS, d113, fit, sz]
  by_cases hc : 1000000000000000000 ≤ z
  · simp [hc, wpE, wpEs, readVar, Prim.pkOk, primS, addS, d113, m, mulS, fit, sz, cupRt]
    omega
  · simp [hc, wpE, wpEs, readVar, Prim.pkOk, primS, addS, d113, m, mulS, fit, sz, cupRt]
    omega
end G
namespace G
open PySem PySem.Spec PyProof.Rows L2

section
variable {P : Program} {w : World} {K : PySem.W.Frag} {mg : Str → Option Value} {base : Heap}
def G0 : CEnv := ⟨[], [], none⟩
def noC : Handler := fun _ _ _ => false
theorem tab0 {C : Handler} {A : Around} (hb : ∀ x, x ∈ bltNames → mg x = none) : TabOk G0 C P w K mg base A where
  vals := fun x d h => by cases h
  funs := fun x j ls h => by cases h
  roll := fun x h => by cases h
  blt := hb
def rollN : List Str := ["cup", "many", "found", "deep"]
def rollF : Fr := ⟨rollN, [0], []⟩
theorem rv_ints2 {A : Addr → Prop} {H : Hp} {d0 d1 : Int} {xs : List V} (h : RVs K A H [.int d0, .int d1] xs) : xs = [.int d0, .int d1] := by
  cases h with
  | cons a t =>
    cases t with
    | cons b t => cases t; cases a; cases b; rfl
theorem roll_fn {x qual : Str} {st : Stmt} {f : Addr} {fd : FuncData} (FF : Fun K x qual st f fd) (S : FnScope rollN ["cup", "many"] (defScope st)) (hb : ∀ x, x ∈ bltNames → mg x = none) (hc : cSs (cS G0 rollF (defScope st) 40 40) (defBody st) = some rollS) :
    FnOk P w K mg base CX0 1 f fd ["cup", "many"] spRoll := by
  refine FF.ok S (fun vs H Q E ⟨a, c0, c1, n, e, _⟩ => by rw [e]; rfl) fun cdv A outer s H vs Q E hr q => ?_
  obtain ⟨a, c0, c1, n, rfl, ha, h0, h1, h2, n0, n1, fin⟩ := q
  have o' := xok_of (P := P) (w := w) (mg := mg) (base := base) (outer := outer) (s := s) (H := H) (E := E) (C := noC) (G := G0) (F := rollF) (K := K) S rfl hr (tab0 hb)
  refine ⟨_, cSs_ok (X := (cxOf CX0 P w K mg base rollN qual (defScope st) f cdv A outer s H E).nox) (N := 0) (W := fun j => j ∈ rollS.sets) (fun st' s' h => cS_ok o' 40 st' s' h) hc, ?_⟩
  have rep : Rep K (fun b => b ≠ a ∧ H b ≠ none) (fun i => if i = 0 then some a else none) (L2.start rollN [V.ref a, V.int n]) H [.olst true [.int c0, .int c1], .val (.int n), .none, .none] := by
    refine ⟨rfl, fun i t e => ?_, fun i h => ?_, fun i j b e1 e2 => ?_, fun b h => h.2, fun i t b e1 e2 e3 => ?_⟩
    · match i, e with
      | 0, e => cases e; exact .own ha (.lst (.cons (.int c0) (.cons (.int c1) .nil)))
      | 1, e => cases e; exact .val (.int n)
      | 2, e => cases e; exact .none
      | 3, e => cases e; exact .none
      | k + 4, e => cases e
    · show (if i = 0 then some a else none) = none
      rw [if_neg]
      intro z
      subst z
      simp at h
    · split at e1 <;> split at e2
      · omega
      · cases e2
      · cases e1
      · cases e1
    · split at e2
      · rename_i hi; subst hi; cases e1; cases e3
      · cases e2
  refine ⟨_, _, _, _, rep, roll_wp h0 h1 h2 n0 n1, fun j h => h, ⟨fun o1 σ1 H1 ρ1 m1 r1 q => (by cases q), fun o1 σ1 H1 ρ1 m1 r1 q => (by cases q), fun o1 σ1 H1 ρ1 m1 r1 q => (by cases q), fun o1 σ1 H1 ρ1 dd v m1 r1 rv q => ?_⟩⟩
  replace q : rollRt n dd ρ1 = true := q
  unfold rollRt at q
  split at q
  · rename_i r l d0 d1 hs
    cases rv
    have hq := of_decide_eq_true q
    obtain ⟨b, xs, hv, ho, hx, rs⟩ := r1.olst hs
    have e0 : σ1[0]? = (L2.start rollN [V.ref a, V.int n])[0]? := m1.same 0 (by decide)
    rw [hv] at e0
    cases e0
    rw [rv_ints2 rs] at hx
    exact fin r d0 d1 H1 hq.1 hq.2.1 hq.2.2.1 hq.2.2.2.1 hq.2.2.2.2 hx fun b x n e => m1.ext.keep b x e fun i z => by
      split at z
      · cases z; exact n rfl
      · cases z
  · cases q
/-- what _law_cup promises -/
def spCup (K : PySem.W.Frag) : Sp := fun vs H Q _ => ∃ (a : Addr) (ns : List Int), vs = [V.ref a] ∧ SqL K H a (ns.map V.int) ∧ ns.length ≤ 63 ∧
  ∀ (p : Addr) (c0 c1 : Int) (H' : Hp), H p = none → 0 ≤ c0 → 0 ≤ c1 → c1 < 2 ^ 32 → H' p = some (.lst [.int c0, .int c1]) → (∀ b x, H b = some x → H' b = some x) → Q (.ref p) H'
def cupN : List Str := ["script", "cell"]
def cupF : Fr := ⟨cupN, [], []⟩
def cupS2 : S := (.seq (.ret (.disp (.cons (.ife (.prim .ge (.cons (.var 1) (.cons (.prim .pow (.cons (.cst (.int 10)) (.cons (.cst (.int 18)) .nil))) .nil))) (.prim .fdiv (.cons (.var 1) (.cons (.cst (.int 113)) .nil))) (.cst (.int 0))) (.cons (.prim .add (.cons (.prim .mod (.cons (.prim .int1 (.cons (.prim .add (.cons (.prim .mul (.cons (.var 1) (.cons (.cst (.int 367)) .nil))) (.cons (.cst (.int 5303)) .nil))) .nil)) (.cons (.cst (.int 1984129399)) .nil))) (.cons (.cst (.int 227)) .nil))) .nil)))) .skip)
theorem cup_wp2 {C : Handler} {N : Nat} {z : Int} (ha : 0 ≤ z) : wpS C N cupS2 [.none, .val (.int z)] { nx := fun _ => false, rt := cupRt } = true := by
  have d113 : divOk 113 = true := by decide +kernel
  have m : ∀ z : Int, mulOk z 367 = true := fun z => by unfold mulOk big; simp
  have k2 : 0 ≤ (z * 367 + 5303) % 1984129399 := Int.emod_nonneg _ (by decide)
  have k3 : (z * 367 + 5303) % 1984129399 < 1984129399 := Int.emod_lt_of_pos _ (by decide)
  simp [cupS2, wpS, wpE, wpEs, readVar, Prim.pkOk, primS, cmpI, truthy]
  by_cases hc : 1000000000000000000 ≤ z
  · simp [hc, wpE, wpEs, readVar, Prim.pkOk, primS, addS, d113, m, mulS, fit, sz, cupRt]
    omega
  · simp [hc, wpE, wpEs, readVar, Prim.pkOk, primS, addS, d113, m, mulS, fit, sz, cupRt]
    omega
theorem cup_fn {x qual : Str} {st s1 : Stmt} {rest : List Stmt} {f : Addr} {fd : FuncData} {p1 p2 p3 p4 p5 p6 p7 p8 p9 p10 p11 p12 : Pos} {k1 k2 : Nat} (FF : Fun K x qual st f fd) (S : FnScope cupN ["script"] (defScope st)) (hb : ∀ x, x ∈ bltNames → mg x = none)
    (h1 : defBody st = s1 :: rest) (h2 : s1 = .Assign [.Name "cell" p1] (.Call (.Name "abs" p2) [.Subscript (.BinOp (.Call (.Name "list" p3) [.Name "script" p4] [] p5) .Add (.List [.Constant (.int 0) k1 p6] p7) p8) (.Constant (.int 0) k2 p9) p10] [] p11) p12)
    (hs : isGl (defScope st) "abs" = true ∧ isGl (defScope st) "list" = true ∧ isVis (defScope st) "script" = true ∧ isLoc (defScope st) (defScope st) "cell" = true)
    (hc : cSs (cS G0 cupF (defScope st) 40 40) rest = some cupS2) : FnOk P w K mg base CX0 1 f fd ["script"] (spCup K) := by
  refine FF.ok S (fun vs H Q E ⟨a, ns, e, _⟩ => by rw [e]; rfl) fun cdv A outer s H vs Q E hr q => ?_
  obtain ⟨a, ns, rfl, ha, hn, fin⟩ := q
  have o' := xok_of (P := P) (w := w) (mg := mg) (base := base) (outer := outer) (s := s) (H := H) (E := E) (C := noC) (G := G0) (F := cupF) (K := K) S rfl hr (tab0 hb)
  have hN : (cxOf CX0 P w K mg base cupN qual (defScope st) f cdv A outer s H E).nox.N.Nodup := S.nd
  obtain ⟨l1, l2⟩ := isLoc_iff o' hs.2.2.2
  subst h2
  rw [h1]
  refine ⟨_, pss_cons (ps_set (i := 1) hN rfl l1 (pe_callB call_abs (isGl_iff o' hs.1) (hb _ (by decide +kernel)) (show bootBuiltins (Str.ofString "abs") = some (.builtin "abs") by decide +kernel)
      (pa_cons (pe_ix ix_list (pe_op op_cat (pe_callTy call_list_of (isGl_iff o' hs.2.1) (hb _ (by decide +kernel)) (show bootBuiltins (Str.ofString "list") = some (.type "list") by decide +kernel) (pa_cons (pe_var (i := 0) rfl (isVis_iff o' hs.2.2.1)) pa_nil (star_ok rfl))) (pe_lst (pa_cons pe_int pa_nil (star_ok rfl)))) pe_int (noSl_iff rfl)) pa_nil (star_ok rfl))) (swaps_no rfl) l2)
    (cSs_ok (X := (cxOf CX0 P w K mg base cupN qual (defScope st) f cdv A outer s H E).nox) (N := 0) (W := fun j => j ∈ cupS2.sets) (fun st' s' h => cS_ok o' 40 st' s' h) hc), ?_⟩
  refine ⟨.ref a, rfl, a, ns.map V.int, rfl, .inl ha, fun l hl => ⟨by decide, fun m hm => ?_⟩⟩
  have nlm : l ≠ m := fun z => by rw [← z, upd_same] at hm; cases hm
  have hml : H m = none := by rw [← hm, upd_ne (Ne.symm nlm)]
  have hb1 : (ns.map V.int ++ [V.int 0]).length ≤ sizeLine := by rw [sizeLine_eq, List.length_append, List.length_map]; simp; omega
  refine ⟨l, m, ns.map V.int, [V.int 0], rfl, rfl, by rw [upd_ne nlm, upd_same], upd_same, by rw [List.length_append] at hb1; exact hb1, fun u hu => ?_⟩
  have nul : u ≠ l := fun z => by rw [z, upd_ne nlm, upd_same] at hu; cases hu
  have num : u ≠ m := fun z => by rw [z, upd_same] at hu; cases hu
  have hul : H u = none := by rw [upd_ne num, upd_ne nul] at hu; exact hu
  obtain ⟨i, hi⟩ : ∃ i, L2.atI (ns.map V.int ++ [V.int 0]) 0 = some (.int i) := by
    cases ns with
    | nil => exact ⟨0, rfl⟩
    | cons n r => exact ⟨n, by
        have : L2.ixN ((n :: r).map V.int ++ [V.int 0]).length 0 = some 0 := by
          unfold L2.ixN
          rw [if_pos (by decide), if_pos (by simp; omega)]; rfl
        unfold L2.atI
        rw [this]; rfl⟩
  refine ⟨u, _, 0, .int i, rfl, rfl, .inl (.inl upd_same), hi, i, rfl, ?_⟩
  have hz : 0 ≤ (if i < 0 then -i else i) := by split <;> omega
  have k3 : ∀ b x, H b = some x → upd (upd (upd H l (.lst (ns.map V.int))) m (.lst [V.int 0])) u (.lst (ns.map V.int ++ [V.int 0])) b = some x := fun b x e => by
    rw [upd_ne (ne_of_none e hul), upd_ne (ne_of_none e hml), upd_ne (ne_of_none e hl)]; exact e
  show TSr K noC 0 _ cupS2 _ _ _
  refine ⟨fun b => H b ≠ none, fun _ => none, [.none, .val (.int (if i < 0 then -i else i))], _, ?_, cup_wp2 hz, fun j h => h, ⟨fun o1 σ1 H1 ρ1 m1 r1 q => (by cases q), fun o1 σ1 H1 ρ1 m1 r1 q => (by cases q), fun o1 σ1 H1 ρ1 m1 r1 q => (by cases q), fun o1 σ1 H1 ρ1 dd v m1 r1 rv q => ?_⟩⟩
  · refine ⟨rfl, fun j t e => ?_, fun _ _ => rfl, fun _ _ _ e _ => (by cases e), fun b h => ?_, fun _ _ _ _ e => (by cases e)⟩
    · match j, e with
      | 0, e => cases e; exact .none
      | 1, e => cases e; exact .val (.int _)
      | k + 2, e => cases e
    · cases q : H b with
      | none => exact absurd q h
      | some x => rw [k3 b x q]; simp
  · replace q : cupRt dd ρ1 = true := q
    unfold cupRt at q
    split at q
    · rename_i c0 c1
      have hq := of_decide_eq_true q
      cases rv with
      | lst e n rs =>
        rw [rv_ints2 rs] at e
        refine fin _ c0 c1 H1 ?_ hq.1 hq.2.1 hq.2.2 e fun b x eb => m1.ext.keep b x (k3 b x eb) fun i z => by cases z
        exact Classical.byContradiction fun z => n (.inl z)
    · cases q
/-- the law's def -/
def spLaw (K : PySem.W.Frag) : Sp := fun vs H Q _ => ∃ (a : Addr) (ns : List Int), vs = [.ref a] ∧ SqL K H a (ns.map V.int) ∧ ns.length ≤ 63 ∧ ∀ H', Q (.bl true) H'
def lawKs : Ks := { nx := fun _ => false, rt := fun v _ => match v with
  | .bool b => b
  | _ => false }
theorem law_fn {G : CEnv} {Fs : List Fn} {fa : List Addr} {fds : List FuncData} {pss Ns : List (List Str)} {N k : Nat} (M : ModOk P w K mg base G Fs fa fds pss Ns) {x qual : Str} {st s1 : Stmt} {rest : List Stmt} {f fc : Addr} {fd fdc : FuncData} {F : Fr} {Nr : List Str} {lawS : S} {p1 p2 p3 p4 p5 : Pos}
    (FF : Fun K x qual st f fd) (hN : F.N = ("script" : Str) :: ("cup" : Str) :: Nr) (S : FnScope F.N ["script"] (defScope st)) (FC : FnOk P w K mg base CX0 1 fc fdc ["script"] (spCup K)) (mc : mg "_law_cup" = some (.ref fc)) (kc : PySem.W.keepIn K (.ref fc) = true) (bc : Binds K fdc ["script"] [])
    (h1 : defBody st = s1 :: rest) (h2 : s1 = .Assign [.Name "cup" p1] (.Call (.Name "_law_cup" p2) [.Name "script" p3] [] p4) p5)
    (hs : isGl (defScope st) "_law_cup" = true ∧ isVis (defScope st) "script" = true ∧ isLoc (defScope st) (defScope st) "cup" = true)
    (hc : cSs (cS G F (defScope st) 40 40) rest = some lawS) (hw : wpS (wpF Fs N k) N lawS (.none :: .cup :: Nr.map fun _ => .none) lawKs = true) : FnOk P w K mg base CX0 (k + 2) f fd ["script"] (spLaw K) := by
  refine FF.ok S (fun vs H Q E ⟨a, ns, e, _⟩ => by rw [e]; rfl) fun cdv A outer s H vs Q E hr q => ?_
  obtain ⟨a, ns, rfl, ha, hn, fin⟩ := q
  have o' := xok_of (P := P) (w := w) (mg := mg) (base := base) (outer := outer) (s := s) (H := H) (E := E) (C := wpF Fs N k) (G := G) (F := F) (K := K) S rfl hr (M.tab hr (defs_ok M k))
  have hN' : (cxOf CX0 P w K mg base F.N qual (defScope st) f cdv A outer s H E).nox.N.Nodup := S.nd
  obtain ⟨l1, l2⟩ := isLoc_iff o' hs.2.2
  subst h2
  rw [h1]
  refine ⟨_, pss_cons (ps_set (i := 1) hN' (by show F.N[1]? = _; rw [hN]; rfl) l1 (pe_call (E := E0) FC (hr.mono (by omega)) (isGl_iff o' hs.1) mc kc bc .nil pass0
      (pa_cons (pe_var (i := 0) (by show F.N[0]? = _; rw [hN]; rfl) (isVis_iff o' hs.2.1)) pa_nil (star_ok rfl)) (by decide) (star_ok rfl) rfl) (swaps_no rfl) l2)
    (cSs_ok (X := (cxOf CX0 P w K mg base F.N qual (defScope st) f cdv A outer s H E).nox) (N := N) (W := fun j => j ∈ lawS.sets) (fun st' s' h => cS_ok o' 40 st' s' h) hc), ?_⟩
  refine ⟨.ref a, rfl, a, ns, rfl, ha, hn, fun p c0 c1 H' hp g0 g1 g2 hx hk => ?_⟩
  have hst : (L2.start F.N [V.ref a]).set 1 (some (.ref p)) = some (.ref a) :: some (.ref p) :: List.replicate Nr.length none := by
    unfold L2.start
    rw [hN]
    rfl
  have rep : Rep K (fun b => b ≠ p ∧ H' b ≠ none) (fun i => if i = 1 then some p else none) (some (V.ref a) :: some (.ref p) :: List.replicate Nr.length none) H' (.none :: .cup :: Nr.map fun _ => .none) := by
    refine ⟨by simp, fun i t e => ?_, fun i h => ?_, fun i j b e1 e2 => ?_, fun b h => h.2, fun i t b e1 e2 e3 => ?_⟩
    · match i, e with
      | 0, e => cases e; exact .none
      | 1, e => cases e; exact .own hx (.cup g0 g1 g2)
      | k + 2, e =>
        have : t = .none := by
          simp only [List.getElem?_cons_succ, List.getElem?_map] at e
          cases q : Nr[k]? with
          | none => rw [q] at e; cases e
          | some z => rw [q] at e; cases e; rfl
        subst this
        exact .none
    · show (if i = 1 then some p else none) = none
      rw [if_neg]
      intro z
      subst z
      simp at h
    · split at e1 <;> split at e2
      · omega
      · cases e2
      · cases e1
      · cases e1
    · split at e2
      · rename_i hi; subst hi; cases e1; cases e3
      · cases e2
  show TSr K (wpF Fs N k) N _ lawS _ _ _
  rw [hst]
  refine ⟨_, _, _, _, rep, hw, fun j h => h, ⟨fun o1 σ1 H1 ρ1 m1 r1 q => (by cases q), fun o1 σ1 H1 ρ1 m1 r1 q => (by cases q), fun o1 σ1 H1 ρ1 m1 r1 q => (by cases q), fun o1 σ1 H1 ρ1 dd v m1 r1 rv q => ?_⟩⟩
  cases dd with
  | bool b =>
    cases rv
    obtain rfl : b = true := q
    exact fin H1
  | _ => cases q
end
end G
namespace G
open PySem PySem.Spec PyProof.Rows L2

/-! ### the module's tables, row by row -/
structure Row where
  f : Addr
  fd : FuncData
  ps : List Str
  N : List Str
inductive AllD (Q : Nat → Row → Prop) : Nat → List Row → Prop
  | nil (k : Nat) : AllD Q k []
  | cons {k : Nat} {r : Row} {rs : List Row} : Q k r → AllD Q (k + 1) rs → AllD Q k (r :: rs)
theorem AllD.at {Q : Nat → Row → Prop} : ∀ {l : List Row} {k j : Nat} {r : Row}, AllD Q k l → l[j]? = some r → Q (k + j) r
  | _, k, j, r, .nil _, e => by simp at e
  | _, k, 0, r, .cons h t, e => by simp at e; subst e; exact h
  | _, k, j + 1, r, .cons h t, e => by
    have := AllD.at t (j := j) (by simpa using e)
    rwa [Nat.add_assoc, Nat.add_comm 1 j] at this
section
variable {P : Program} {w : World} {K : PySem.W.Frag} {mg : Str → Option Value} {base : Heap}
theorem modOk_mk {G : CEnv} {Fs : List Fn} {rows : List Row} (hv : ∀ p ∈ G.vals, ∃ u v, mg p.1 = some u ∧ RelV v u ∧ ∀ A H, RV K A H p.2 v) (hb : ∀ x ∈ bltNames, mg x = none)
    (hf : ∀ p ∈ G.funs, ∃ r, rows[p.2.1]? = some r ∧ mg p.1 = some (.ref r.f)) (hd : AllD (fun j r => DefAt K mg G Fs j r.f r.fd r.ps r.N) 0 rows)
    (hr : ∀ x, G.roll = some x → ∃ f fd ps, FnOk P w K mg base CX0 1 f fd ps spRoll ∧ mg x = some (.ref f) ∧ PySem.W.keepIn K (.ref f) = true ∧ Binds K fd ps []) :
    ModOk P w K mg base G Fs (rows.map (·.f)) (rows.map (·.fd)) (rows.map (·.ps)) (rows.map (·.N)) where
  vals := fun x d h => hv (x, d) (PySem.mem_of_lookup h)
  blt := hb
  funs := fun x j ls h => by
    obtain ⟨r, h1, h2⟩ := hf (x, (j, ls)) (PySem.mem_of_lookup h)
    have h1 : rows[j]? = some r := h1
    exact ⟨r.f, r.fd, r.ps, r.N, by rw [List.getElem?_map, h1]; rfl, by rw [List.getElem?_map, h1]; rfl, by rw [List.getElem?_map, h1]; rfl, by rw [List.getElem?_map, h1]; rfl, h2⟩
  defs := fun j f fd ps N h1 h2 h3 h4 => by
    rw [List.getElem?_map] at h1 h2 h3 h4
    cases e : rows[j]? with
    | none => rw [e] at h1; cases h1
    | some r =>
      rw [e] at h1 h2 h3 h4
      cases h1; cases h2; cases h3; cases h4
      have := hd.at e
      rwa [Nat.zero_add] at this
  roll := hr
theorem val_int {x : Str} {i : Int} {t : Tok} (h : mg x = some (.int i t)) : ∃ u v, mg x = some u ∧ RelV v u ∧ ∀ A H, RV K A H (.int i) v := ⟨_, .int i, h, ⟨t, rfl⟩, fun A H => .int i⟩
theorem val_str {x y : Str} {t : Tok} (h : mg x = some (.str y t)) : ∃ u v, mg x = some u ∧ RelV v u ∧ ∀ A H, RV K A H (.str y) v := ⟨_, .str y, h, ⟨t, rfl⟩, fun A H => .str y⟩
theorem defAt_mk {G : CEnv} {Fs : List Fn} {j : Nat} {x qual : Str} {st : Stmt} {f : Addr} {fd : FuncData} {ps : List Str} {F : Fr} {d : Fn} (FF : Fun K x qual st f fd) (S : FnScope F.N ps (defScope st)) (hP : Fs[j]? = some d) (h : d.ar = ps.length ∧ d.ns = F.N.length ∧ d.ok = true)
    (hc : cSs (cS G F (defScope st) 40 40) (defBody st) = some d.body) (hb : Binds K fd ps []) : DefAt K mg G Fs j f fd ps F.N :=
  ⟨⟨x, qual, st, F, d, 40, FF, S, rfl, hP, h.1, h.2.1, h.2.2, hc⟩, hb, FF.kp⟩
end
end G
namespace G
open PySem PySem.Spec PyProof.Rows L2
/-- what the written part tells of a def -/
structure DF (K : PySem.W.Frag) (x : Str) (st : Stmt) (f : Addr) : Prop where
  ex : ∃ (oc : Value) (od : Option Addr) (kV dc pm : Value) (an : Option Addr) (cd ct : Value) (sl : Array (Option Value)), K.lookup f = some ⟨oc, od, .func (PySem.W.fnOf x x (defArgs st) (defBody st) (defScope st) .none kV dc pm an cd ct), sl⟩ ∧
    PySem.W.codeIn K cd x = true ∧ PySem.W.keepIn K (.ref f) = true
theorem df_mk {K : PySem.W.Frag} {x : Str} {st : Stmt} {f : Addr} {oc : Value} {od : Option Addr} {kV dc pm : Value} {an : Option Addr} {cd ct : Value} {sl : Array (Option Value)}
    (l : K.lookup f = some ⟨oc, od, .func (PySem.W.fnOf x x (defArgs st) (defBody st) (defScope st) .none kV dc pm an cd ct), sl⟩) (c : PySem.W.codeIn K cd x = true) (k : PySem.W.keepIn K (.ref f) = true) : DF K x st f := ⟨⟨_, _, _, _, _, _, _, _, _, l, c, k⟩⟩
end G
namespace G
open PySem

/-! ### the evaluator is monotone: in what is wanted, and in the handler of calls -/
def HLe (C C' : Handler) : Prop := ∀ (f : Nat) (a : List Slot) (K K' : AV → List Slot → Bool), (∀ v o, K v o = true → K' v o = true) → C f a K = true → C' f a K' = true
def KLe (K K' : EK) : Prop := ∀ v ρ, K v ρ = true → K' v ρ = true
mutual
theorem wpE_mono {C C' : Handler} (hC : HLe C C') : ∀ (e : E) (ρ : Env) (K K' : EK), KLe K K' → wpE C e ρ K = true → wpE C' e ρ K' = true
  | .cst v, ρ, K, K', hK, h => by
    rw [wpE] at h ⊢
    exact hK _ _ h
  | .var i, ρ, K, K', hK, h => by
    rw [wpE] at h ⊢
    split at h
    · exact hK _ _ h
    · cases h
  | .prim p as, ρ, K, K', hK, h => by
    rw [wpE] at h ⊢
    refine wpEs_mono hC _ as ρ _ _ (fun vs ρ1 h => ?_) h
    split at h
    · exact hK _ _ h
    · cases h
  | .and a b, ρ, K, K', hK, h => by
    rw [wpE] at h ⊢
    refine wpE_mono hC a ρ _ _ (fun v ρ1 h => ?_) h
    split at h
    · exact wpE_mono hC b ρ1 _ _ hK h
    · exact hK _ _ h
    · cases h
  | .or a b, ρ, K, K', hK, h => by
    rw [wpE] at h ⊢
    refine wpE_mono hC a ρ _ _ (fun v ρ1 h => ?_) h
    split at h
    · exact hK _ _ h
    · exact wpE_mono hC b ρ1 _ _ hK h
    · cases h
  | .not a, ρ, K, K', hK, h => by
    rw [wpE] at h ⊢
    refine wpE_mono hC a ρ _ _ (fun v ρ1 h => ?_) h
    split at h
    · exact hK _ _ h
    · cases h
  | .ife c a b, ρ, K, K', hK, h => by
    rw [wpE] at h ⊢
    refine wpE_mono hC c ρ _ _ (fun v ρ1 h => ?_) h
    split at h
    · exact wpE_mono hC a ρ1 _ _ hK h
    · exact wpE_mono hC b ρ1 _ _ hK h
    · cases h
  | .chain p q a b c, ρ, K, K', hK, h => by
    rw [wpE] at h ⊢
    refine wpE_mono hC a ρ _ _ (fun x ρ1 h => ?_) h
    refine wpE_mono hC b ρ1 _ _ (fun y ρ2 h => ?_) h
    split at h
    · refine wpE_mono hC c ρ2 _ _ (fun z ρ3 h => ?_) h
      split at h
      · exact hK _ _ h
      · cases h
    · exact hK _ _ h
    · cases h
  | .comp k as t cs elt, ρ, K, K', hK, h => by
    rw [wpE] at h ⊢
    refine wpEs_mono hC _ as ρ _ _ (fun vs ρ1 h => ?_) h
    split at h
    · cases h
    · rename_i items hi
      split at h
      · rename_i hc
        rw [if_pos hc]
        have key : ∀ (l acc : List AV) (ρ : Env) (Kl Kl' : List AV → Env → Bool), (∀ v ρ, Kl v ρ = true → Kl' v ρ = true) →
            loopC (fun x ρ => assign t x (wipeS t.slots ρ)) (fun ρ K => wpCs C cs ρ K) (fun ρ K => wpE C elt ρ K) Kl l acc ρ = true →
            loopC (fun x ρ => assign t x (wipeS t.slots ρ)) (fun ρ K => wpCs C' cs ρ K) (fun ρ K => wpE C' elt ρ K) Kl' l acc ρ = true := by
          intro l
          induction l with
          | nil => intro acc ρ Kl Kl' hl h; exact hl _ _ h
          | cons x r ih =>
            intro acc ρ Kl Kl' hl h
            rw [loopC] at h ⊢
            split at h
            · cases h
            · refine wpCs_mono hC cs _ _ _ (fun b ρ2 h => ?_) h
              cases b with
              | true => exact wpE_mono hC elt _ _ _ (fun y ρ3 h => ih _ _ _ _ hl h) h
              | false => exact ih _ _ _ _ hl h
        exact key _ _ _ _ _ (fun v ρ h => hK _ _ h) h
      · cases h
  | .call f as, ρ, K, K', hK, h => by
    rw [wpE] at h ⊢
    refine wpArgs_mono hC as ρ _ _ (fun ss ρ1 h => ?_) h
    split at h
    · rename_i hc
      rw [if_pos hc]
      refine hC _ _ _ _ (fun v o h => ?_) h
      split at h
      · exact hK _ _ h
      · cases h
    · cases h
  | .roll i e, ρ, K, K', hK, h => by
    rw [wpE] at h ⊢
    split at h
    · rename_i hc
      rw [if_pos hc]
      refine wpE_mono hC e ρ _ _ (fun v ρ1 h => ?_) h
      split at h
      · simp only [Bool.and_eq_true] at h ⊢
        exact ⟨h.1, allB_iff.mpr fun r hr => hK _ _ (allB_iff.mp h.2 r hr)⟩
      · cases h
    · cases h
  | .disp as, ρ, K, K', hK, h => by
    rw [wpE] at h ⊢
    refine wpEs_mono hC _ as ρ _ _ (fun vs ρ1 h => ?_) h
    split at h
    · exact hK _ _ h
    · cases h
  | .pop i, ρ, K, K', hK, h => by
    rw [wpE] at h ⊢
    split at h
    · split at h
      · exact hK _ _ h
      · cases h
    · cases h
  | .popAt i e, ρ, K, K', hK, h => by
    rw [wpE] at h ⊢
    split at h
    · rename_i hc
      rw [if_pos hc]
      refine wpE_mono hC e ρ _ _ (fun v ρ1 h => ?_) h
      split at h
      · split at h
        · split at h
          · exact hK _ _ h
          · cases h
        · cases h
      · cases h
    · cases h
  | .idx a e, ρ, K, K', hK, h => by
    rw [wpE] at h ⊢
    refine wpE_mono hC a ρ _ _ (fun v ρ1 h => ?_) h
    split at h
    · refine wpE_mono hC e ρ1 _ _ (fun x ρ2 h => ?_) h
      split at h
      · rename_i hc
        rw [if_pos hc]
        split at h
        · exact hK _ _ h
        · cases h
      · cases h
    · cases h
theorem wpEs_mono {C C' : Handler} (hC : HLe C C') (pk : Bool) : ∀ (e : Es) (ρ : Env) (K K' : List AV → Env → Bool), (∀ v ρ, K v ρ = true → K' v ρ = true) → wpEs C pk e ρ K = true → wpEs C' pk e ρ K' = true
  | .nil, ρ, K, K', hK, h => by
    rw [wpEs] at h ⊢
    exact hK _ _ h
  | .cons a r, ρ, K, K', hK, h => by
    rw [wpEs] at h ⊢
    exact wpE_mono hC a ρ _ _ (fun v ρ1 h => wpEs_mono hC pk r ρ1 _ _ (fun vs ρ2 h => hK _ _ h) h) h
  | .pk i r, ρ, K, K', hK, h => by
    rw [wpEs] at h ⊢
    split at h
    · rename_i hc
      rw [if_pos hc]
      refine wpEs_mono hC pk r ρ _ _ (fun vs ρ2 h => ?_) h
      split at h
      · exact hK _ _ h
      · cases h
    · cases h
theorem wpArgs_mono {C C' : Handler} (hC : HLe C C') : ∀ (e : Es) (ρ : Env) (K K' : List Slot → Env → Bool), (∀ v ρ, K v ρ = true → K' v ρ = true) → wpArgs C e ρ K = true → wpArgs C' e ρ K' = true
  | .nil, ρ, K, K', hK, h => by
    rw [wpArgs] at h ⊢
    exact hK _ _ h
  | .cons a r, ρ, K, K', hK, h => by
    rw [wpArgs] at h ⊢
    exact wpE_mono hC a ρ _ _ (fun v ρ1 h => wpArgs_mono hC r ρ1 _ _ (fun vs ρ2 h => hK _ _ h) h) h
  | .pk i r, ρ, K, K', hK, h => by
    rw [wpArgs] at h ⊢
    split at h
    · rename_i hc
      rw [if_pos hc]
      refine wpArgs_mono hC r ρ _ _ (fun vs ρ2 h => ?_) h
      split at h
      · exact hK _ _ h
      · cases h
    · cases h
theorem wpCs_mono {C C' : Handler} (hC : HLe C C') : ∀ (e : Es) (ρ : Env) (K K' : Bool → Env → Bool), (∀ v ρ, K v ρ = true → K' v ρ = true) → wpCs C e ρ K = true → wpCs C' e ρ K' = true
  | .nil, ρ, K, K', hK, h => by
    rw [wpCs] at h ⊢
    exact hK _ _ h
  | .cons a r, ρ, K, K', hK, h => by
    rw [wpCs] at h ⊢
    refine wpE_mono hC a ρ _ _ (fun v ρ1 h => ?_) h
    split at h
    · exact wpCs_mono hC r ρ1 _ _ hK h
    · exact hK _ _ h
    · cases h
  | .pk i r, ρ, K, K', hK, h => by
    rw [wpCs] at h
    cases h
end
structure KsLe (D D' : Ks) : Prop where
  nx : ∀ ρ, D.nx ρ = true → D'.nx ρ = true
  rt : ∀ v ρ, D.rt v ρ = true → D'.rt v ρ = true
  bk : ∀ ρ, D.bk ρ = true → D'.bk ρ = true
  ct : ∀ ρ, D.ct ρ = true → D'.ct ρ = true
theorem wpS_mono {C C' : Handler} (hC : HLe C C') {N : Nat} : ∀ (s : S) (ρ : Env) (D D' : Ks), KsLe D D' → wpS C N s ρ D = true → wpS C' N s ρ D' = true
  | .skip, ρ, D, D', hD, h => hD.nx _ h
  | .brk, ρ, D, D', hD, h => hD.bk _ h
  | .cnt, ρ, D, D', hD, h => hD.ct _ h
  | .stuck, ρ, D, D', hD, h => by cases h
  | .seq a b, ρ, D, D', hD, h => by
    rw [wpS] at h ⊢
    refine wpS_mono hC a ρ _ _ ?_ h
    exact ⟨fun ρ1 h => wpS_mono hC b ρ1 _ _ hD h, hD.rt, hD.bk, hD.ct⟩
  | .asg t e, ρ, D, D', hD, h => by
    rw [wpS] at h ⊢
    refine wpE_mono hC e ρ _ _ (fun v ρ1 h => ?_) h
    split at h
    · exact hD.nx _ h
    · cases h
  | .own i e, ρ, D, D', hD, h => by
    rw [wpS] at h ⊢
    split at h
    · rename_i hc
      rw [if_pos hc]
      refine wpE_mono hC e ρ _ _ (fun v ρ1 h => ?_) h
      split at h
      · split at h
        · rename_i hc2
          rw [if_pos hc2]
          exact hD.nx _ h
        · cases h
      · cases h
    · cases h
  | .par is as, ρ, D, D', hD, h => by
    rw [wpS] at h ⊢
    split at h
    · rename_i hc
      rw [if_pos hc]
      refine wpEs_mono hC _ as ρ _ _ (fun vs ρ1 h => ?_) h
      split at h
      · exact hD.nx _ h
      · cases h
    · cases h
  | .app i e, ρ, D, D', hD, h => by
    rw [wpS] at h ⊢
    split at h
    · rename_i hc
      rw [if_pos hc]
      refine wpE_mono hC e ρ _ _ (fun v ρ1 h => ?_) h
      split at h
      · split at h
        · rename_i hc2
          rw [if_pos hc2]
          exact hD.nx _ h
        · cases h
      · cases h
    · cases h
  | .put i ke e, ρ, D, D', hD, h => by
    rw [wpS] at h ⊢
    split at h
    · rename_i hc
      rw [if_pos hc]
      refine wpE_mono hC e ρ _ _ (fun v ρ1 h => ?_) h
      refine wpE_mono hC ke ρ1 _ _ (fun k ρ2 h => ?_) h
      split at h
      · split at h
        · exact hD.nx _ h
        · cases h
      · split at h
        · rename_i hc2
          rw [if_pos hc2]
          exact hD.nx _ h
        · cases h
      · cases h
    · cases h
  | .ife c a b, ρ, D, D', hD, h => by
    rw [wpS] at h ⊢
    refine wpE_mono hC c ρ _ _ (fun v ρ1 h => ?_) h
    split at h
    · exact wpS_mono hC a ρ1 _ _ hD h
    · exact wpS_mono hC b ρ1 _ _ hD h
    · cases h
  | .whl c b, ρ, D, D', hD, h => by
    rw [wpS] at h ⊢
    have key : ∀ (n : Nat) (ρ : Env), whileN (fun ρ K => wpE C c ρ fun v ρ1 => match truthy v with | some k => K k ρ1 | none => false) (fun ρ D => wpS C N b ρ D) D n ρ = true →
        whileN (fun ρ K => wpE C' c ρ fun v ρ1 => match truthy v with | some k => K k ρ1 | none => false) (fun ρ D => wpS C' N b ρ D) D' n ρ = true := by
      intro n
      induction n with
      | zero => intro ρ h; cases h
      | succ n ih =>
        intro ρ h
        rw [whileN] at h ⊢
        refine wpE_mono hC c ρ _ _ (fun v ρ1 h => ?_) h
        split at h
        · rename_i k hk
          cases k with
          | true =>
            refine wpS_mono hC b ρ1 _ _ ?_ h
            exact ⟨ih, hD.rt, hD.nx, ih⟩
          | false => exact hD.nx _ h
        · cases h
    exact key N ρ h
  | .for_ k as t b, ρ, D, D', hD, h => by
    rw [wpS] at h ⊢
    refine wpEs_mono hC _ as ρ _ _ (fun vs ρ1 h => ?_) h
    split at h
    · have key : ∀ (l : List AV) (ρ : Env), forN (assign t) (fun ρ D => wpS C N b ρ D) D l ρ = true → forN (assign t) (fun ρ D => wpS C' N b ρ D) D' l ρ = true := by
        intro l
        induction l with
        | nil => intro ρ h; exact hD.nx _ h
        | cons x r ih =>
          intro ρ h
          rw [forN] at h ⊢
          split at h
          · cases h
          · refine wpS_mono hC b _ _ _ ?_ h
            exact ⟨ih, hD.rt, hD.nx, ih⟩
      exact key _ _ h
    · cases h
  | .ret e, ρ, D, D', hD, h => by
    rw [wpS] at h ⊢
    exact wpE_mono hC e ρ _ _ hD.rt h
  | .exp e, ρ, D, D', hD, h => by
    rw [wpS] at h ⊢
    exact wpE_mono hC e ρ _ _ (fun v ρ1 h => hD.nx _ h) h
theorem wpF_mono {P : List Fn} {N : Nat} : ∀ (k : Nat), HLe (wpF P N k) (wpF P N k)
  | 0 => fun f a K K' hK h => by cases h
  | k + 1 => fun f a K K' hK h => by
    rw [wpF] at h ⊢
    dsimp only at h ⊢
    split at h
    · cases h
    · split at h
      · rename_i hc
        rw [if_pos hc]
        refine wpS_mono (wpF_mono k) _ _ _ _ ?_ h
        refine ⟨fun ρ h => ?_, fun v ρ h => ?_, fun ρ h => (by cases h), fun ρ h => (by cases h)⟩
        · dsimp only at h ⊢
          split at h
          · exact hK _ _ h
          · cases h
        · dsimp only at h ⊢
          split at h
          · exact hK _ _ h
          · cases h
      · cases h
end G
namespace G
open PySem

/-! ### the deterministic part, in direct style (no draws): its results are shared where a continuation's are not -/
abbrev DH := Nat → List Slot → Option (AV × List Slot)
def evLoop (tg : AV → Env → Option Env) (cnd : Env → Option (Bool × Env)) (elt : Env → Option (AV × Env)) : List AV → List AV → Env → Option (List AV × Env)
  | [], acc, ρ => some (acc, ρ)
  | x :: r, acc, ρ => match tg x ρ with
    | none => none
    | some ρ1 => match cnd ρ1 with
      | some (true, ρ2) => (match elt ρ2 with
        | some (y, ρ3) => evLoop tg cnd elt r (acc ++ [y]) ρ3
        | none => none)
      | some (false, ρ2) => evLoop tg cnd elt r acc ρ2
      | none => none
mutual
def evE (C : DH) : E → Env → Option (AV × Env)
  | .cst v, ρ => some (v, ρ)
  | .var i, ρ => readVar i ρ
  | .prim p as, ρ => match evEs C p.pkOk as ρ with
    | some (vs, ρ1) => (match primS p vs with
      | some v => some (v, ρ1)
      | none => none)
    | none => none
  | .and a b, ρ => match evE C a ρ with
    | some (v, ρ1) => (match truthy v with
      | some true => evE C b ρ1
      | some false => some (v, ρ1)
      | none => none)
    | none => none
  | .or a b, ρ => match evE C a ρ with
    | some (v, ρ1) => (match truthy v with
      | some true => some (v, ρ1)
      | some false => evE C b ρ1
      | none => none)
    | none => none
  | .not a, ρ => match evE C a ρ with
    | some (v, ρ1) => (match truthy v with
      | some b => some (.bool !b, ρ1)
      | none => none)
    | none => none
  | .ife c a b, ρ => match evE C c ρ with
    | some (v, ρ1) => (match truthy v with
      | some true => evE C a ρ1
      | some false => evE C b ρ1
      | none => none)
    | none => none
  | .chain p q a b c, ρ => match evE C a ρ with
    | some (x, ρ1) => (match evE C b ρ1 with
      | some (y, ρ2) => (match primS p [x, y] with
        | some (.bool true) => (match evE C c ρ2 with
          | some (z, ρ3) => (match primS q [y, z] with
            | some v => some (v, ρ3)
            | none => none)
          | none => none)
        | some (.bool false) => some (.bool false, ρ2)
        | _ => none)
      | none => none)
    | none => none
  | .comp k as t cs elt, ρ => match evEs C false as ρ with
    | some (vs, ρ1) => (match srcS k vs with
      | some items => if t.slots.all (fun i => wipeable i ρ1) && decide (items.length ≤ sz) then
          (match evLoop (fun x ρ => assign t x (wipeS t.slots ρ)) (fun ρ => evCs C cs ρ) (fun ρ => evE C elt ρ) items [] ρ1 with
            | some (ys, ρ2) => some (.list ys, restore ρ1 t.slots ρ2)
            | none => none)
        else none
      | none => none)
    | none => none
  | .call f as, ρ => match evArgs C as ρ with
    | some (ss, ρ1) => if (lentNo as.lent).Nodup then (match C f ss with
        | some (v, os) => (match giveBack as.lent os ρ1 with
          | some ρ2 => some (v, ρ2)
          | none => none)
        | none => none) else none
    | none => none
  | .roll _ _, _ => none
  | .disp as, ρ => match evEs C false as ρ with
    | some (vs, ρ1) => (match fit vs with
      | some vs => some (.list vs, ρ1)
      | none => none)
    | none => none
  | .pop i, ρ => match ρ[i]? with
    | some (.olst l xs) => (match xs.getLast? with
      | some v => some (v, ρ.set i (.olst l xs.dropLast))
      | none => none)
    | _ => none
  | .popAt _ _, _ => none
  | .idx a e, ρ => match evE C a ρ with
    | some (.list xs, ρ1) => (match evE C e ρ1 with
      | some (x, ρ2) => if eqOk x (.list xs) then (match indexS x xs 0 with
        | some n => some (.int n, ρ2)
        | none => none) else none
      | none => none)
    | _ => none
def evEs (C : DH) (pk : Bool) : Es → Env → Option (List AV × Env)
  | .nil, ρ => some ([], ρ)
  | .cons a r, ρ => match evE C a ρ with
    | some (v, ρ1) => (match evEs C pk r ρ1 with
      | some (vs, ρ2) => some (v :: vs, ρ2)
      | none => none)
    | none => none
  | .pk i r, ρ => if pk && (peek i ρ).isSome then (match evEs C pk r ρ with
      | some (vs, ρ2) => (match peek i ρ2 with
        | some v => some (v :: vs, ρ2)
        | none => none)
      | none => none)
    else none
def evArgs (C : DH) : Es → Env → Option (List Slot × Env)
  | .nil, ρ => some ([], ρ)
  | .cons a r, ρ => match evE C a ρ with
    | some (v, ρ1) => (match evArgs C r ρ1 with
      | some (ss, ρ2) => some (.val v :: ss, ρ2)
      | none => none)
    | none => none
  | .pk i r, ρ => if (lend i ρ).isSome then (match evArgs C r ρ with
      | some (ss, ρ2) => (match lend i ρ2 with
        | some s => some (s :: ss, ρ2)
        | none => none)
      | none => none)
    else none
def evCs (C : DH) : Es → Env → Option (Bool × Env)
  | .nil, ρ => some (true, ρ)
  | .cons a r, ρ => match evE C a ρ with
    | some (v, ρ1) => (match truthy v with
      | some true => evCs C r ρ1
      | some false => some (false, ρ1)
      | none => none)
    | none => none
  | .pk _ _, _ => none
end
inductive Out where
  | nx (ρ : Env) | rt (v : AV) (ρ : Env) | bk (ρ : Env) | ct (ρ : Env) | bad
def evWhile (c : Env → Option (Bool × Env)) (body : Env → Out) : Nat → Env → Out
  | 0, _ => .bad
  | n + 1, ρ => match c ρ with
    | some (true, ρ1) => (match body ρ1 with
      | .nx ρ2 => evWhile c body n ρ2
      | .ct ρ2 => evWhile c body n ρ2
      | .bk ρ2 => .nx ρ2
      | o => o)
    | some (false, ρ1) => .nx ρ1
    | none => .bad
def evFor (tg : AV → Env → Option Env) (body : Env → Out) : List AV → Env → Out
  | [], ρ => .nx ρ
  | x :: r, ρ => match tg x ρ with
    | none => .bad
    | some ρ1 => match body ρ1 with
      | .nx ρ2 => evFor tg body r ρ2
      | .ct ρ2 => evFor tg body r ρ2
      | .bk ρ2 => .nx ρ2
      | o => o
def tstO : Option (AV × Env) → Option (Bool × Env)
  | some (v, ρ) => (match truthy v with
    | some b => some (b, ρ)
    | none => none)
  | none => none
def evS (C : DH) (N : Nat) : S → Env → Out
  | .skip, ρ => .nx ρ
  | .brk, ρ => .bk ρ
  | .cnt, ρ => .ct ρ
  | .stuck, _ => .bad
  | .seq a b, ρ => match evS C N a ρ with
    | .nx ρ1 => evS C N b ρ1
    | o => o
  | .asg t e, ρ => match evE C e ρ with
    | some (v, ρ1) => (match assign t v ρ1 with
      | some ρ2 => .nx ρ2
      | none => .bad)
    | none => .bad
  | .own i e, ρ => if e.fresh then (match evE C e ρ with
      | some (v, ρ1) => (match ownOf v with
        | some s => if i < ρ1.length then .nx (ρ1.set i s) else .bad
        | none => .bad)
      | none => .bad) else .bad
  | .par is as, ρ => if parOk is as then (match evEs C false as ρ with
      | some (vs, ρ1) => (match setPar is vs ρ1 with
        | some ρ2 => .nx ρ2
        | none => .bad)
      | none => .bad) else .bad
  | .app i e, ρ => if isOl i ρ then (match evE C e ρ with
      | some (v, ρ1) => (match ρ1[i]? with
        | some (.olst l xs) => if xs.length < sz then .nx (ρ1.set i (.olst l (xs ++ [v]))) else .bad
        | _ => .bad)
      | none => .bad) else .bad
  | .put i ke e, ρ => if (peek i ρ).isSome then (match evE C e ρ with
      | some (v, ρ1) => (match evE C ke ρ1 with
        | some (k, ρ2) => (match ρ2[i]?, k with
          | some (.olst l xs), .int j => (match L2.ixN xs.length j with
            | some n => .nx (ρ2.set i (.olst l (xs.set n v)))
            | none => .bad)
          | some (.odct l t kvs), k => if keyOk t k && (t == 0 || ke.fresh) && decide (kvs.length < sz) then .nx (ρ2.set i (.odct l t (putD k v kvs))) else .bad
          | _, _ => .bad)
        | none => .bad)
      | none => .bad) else .bad
  | .ife c a b, ρ => match tstO (evE C c ρ) with
    | some (true, ρ1) => evS C N a ρ1
    | some (false, ρ1) => evS C N b ρ1
    | none => .bad
  | .whl c b, ρ => evWhile (fun ρ => tstO (evE C c ρ)) (fun ρ => evS C N b ρ) N ρ
  | .for_ k as t b, ρ => match evEs C false as ρ with
    | some (vs, ρ1) => (match srcS k vs with
      | some items => evFor (assign t) (fun ρ => evS C N b ρ) items ρ1
      | none => .bad)
    | none => .bad
  | .ret e, ρ => match evE C e ρ with
    | some (v, ρ1) => .rt v ρ1
    | none => .bad
  | .exp e, ρ => match evE C e ρ with
    | some (_, ρ1) => .nx ρ1
    | none => .bad
def evEnd (args : List Slot) : Out → Option (AV × List Slot)
  | .nx ρ => (match outs args ρ with
    | some os => some (.none, os)
    | none => none)
  | .rt v ρ => (match outs args ρ with
    | some os => some (v, os)
    | none => none)
  | _ => none
def evF (P : List Fn) (N : Nat) : Nat → DH
  | 0 => fun _ _ => none
  | k + 1 => fun f args => match P[f]? with
    | none => none
    | some d => if args.length = d.ar ∧ d.ar ≤ d.ns ∧ lentOk d 0 args = true then evEnd args (evS (evF P N k) N d.body (args ++ List.replicate (d.ns - d.ar) .none)) else none

/-! ### it answers as the evaluator asks -/
/-- the handler of calls answers what the direct one says -/
def Says (C : DH) (Cw : Handler) : Prop := ∀ f a v o, C f a = some (v, o) → ∀ K : AV → List Slot → Bool, K v o = true → Cw f a K = true
mutual
theorem evE_ok {C : DH} {Cw : Handler} (hC : Says C Cw) : ∀ (e : E) (ρ : Env) (v : AV) (ρ' : Env), evE C e ρ = some (v, ρ') → ∀ K : EK, K v ρ' = true → wpE Cw e ρ K = true
  | .cst v, ρ, w, ρ', h, K, q => by
    rw [evE] at h; cases h
    rw [wpE]; exact q
  | .var i, ρ, w, ρ', h, K, q => by
    rw [evE] at h
    rw [wpE, h]; exact q
  | .prim p as, ρ, w, ρ', h, K, q => by
    rw [evE] at h
    rw [wpE]
    cases e1 : evEs C p.pkOk as ρ with
    | none => rw [e1] at h; cases h
    | some r =>
      obtain ⟨vs, ρ1⟩ := r
      rw [e1] at h
      simp only at h
      refine evEs_ok hC _ as ρ vs ρ1 e1 _ ?_
      cases e2 : primS p vs with
      | none => rw [e2] at h; cases h
      | some v => rw [e2] at h; cases h; exact q
  | .and a b, ρ, w, ρ', h, K, q => by
    rw [evE] at h
    rw [wpE]
    cases e1 : evE C a ρ with
    | none => rw [e1] at h; cases h
    | some r =>
      obtain ⟨v, ρ1⟩ := r
      rw [e1] at h
      simp only at h
      refine evE_ok hC a ρ v ρ1 e1 _ ?_
      split at h
      · rename_i e2
        try simp only [e2]
        exact evE_ok hC b ρ1 _ _ h K q
      · rename_i e2
        cases h
        try simp only [e2]
        exact q
      · cases h
  | .or a b, ρ, w, ρ', h, K, q => by
    rw [evE] at h
    rw [wpE]
    cases e1 : evE C a ρ with
    | none => rw [e1] at h; cases h
    | some r =>
      obtain ⟨v, ρ1⟩ := r
      rw [e1] at h
      simp only at h
      refine evE_ok hC a ρ v ρ1 e1 _ ?_
      split at h
      · rename_i e2
        cases h
        try simp only [e2]
        exact q
      · rename_i e2
        try simp only [e2]
        exact evE_ok hC b ρ1 _ _ h K q
      · cases h
  | .not a, ρ, w, ρ', h, K, q => by
    rw [evE] at h
    rw [wpE]
    cases e1 : evE C a ρ with
    | none => rw [e1] at h; cases h
    | some r =>
      obtain ⟨v, ρ1⟩ := r
      rw [e1] at h
      simp only at h
      refine evE_ok hC a ρ v ρ1 e1 _ ?_
      split at h
      · rename_i e2
        cases h
        try simp only [e2]
        exact q
      · cases h
  | .ife c a b, ρ, w, ρ', h, K, q => by
    rw [evE] at h
    rw [wpE]
    cases e1 : evE C c ρ with
    | none => rw [e1] at h; cases h
    | some r =>
      obtain ⟨v, ρ1⟩ := r
      rw [e1] at h
      simp only at h
      refine evE_ok hC c ρ v ρ1 e1 _ ?_
      split at h
      · rename_i e2
        try simp only [e2]
        exact evE_ok hC a ρ1 _ _ h K q
      · rename_i e2
        try simp only [e2]
        exact evE_ok hC b ρ1 _ _ h K q
      · cases h
  | .chain p q' a b c, ρ, w, ρ', h, K, q => by
    rw [evE] at h
    rw [wpE]
    cases e1 : evE C a ρ with
    | none => rw [e1] at h; cases h
    | some r =>
      obtain ⟨x, ρ1⟩ := r
      rw [e1] at h
      simp only at h
      refine evE_ok hC a ρ x ρ1 e1 _ ?_
      cases e2 : evE C b ρ1 with
      | none => rw [e2] at h; cases h
      | some r =>
        obtain ⟨y, ρ2⟩ := r
        rw [e2] at h
        simp only at h
        refine evE_ok hC b ρ1 y ρ2 e2 _ ?_
        split at h
        · rename_i e3
          try simp only [e3]
          cases e4 : evE C c ρ2 with
          | none => rw [e4] at h; cases h
          | some r =>
            obtain ⟨z, ρ3⟩ := r
            rw [e4] at h
            simp only at h
            refine evE_ok hC c ρ2 z ρ3 e4 _ ?_
            cases e5 : primS q' [y, z] with
            | none => rw [e5] at h; cases h
            | some v => rw [e5] at h; cases h; exact q
        · rename_i e3
          cases h
          try simp only [e3]
          exact q
        · cases h
  | .comp k as t cs elt, ρ, w, ρ', h, K, q => by
    rw [evE] at h
    rw [wpE]
    cases e1 : evEs C false as ρ with
    | none => rw [e1] at h; cases h
    | some r =>
      obtain ⟨vs, ρ1⟩ := r
      rw [e1] at h
      simp only at h
      refine evEs_ok hC _ as ρ vs ρ1 e1 _ ?_
      cases e2 : srcS k vs with
      | none => rw [e2] at h; cases h
      | some items =>
        rw [e2] at h
        simp only at h ⊢
        split at h
        · rename_i hc
          rw [if_pos hc]
          have key : ∀ (l acc : List AV) (ρ : Env) (ys : List AV) (ρ2 : Env), evLoop (fun x ρ => assign t x (wipeS t.slots ρ)) (fun ρ => evCs C cs ρ) (fun ρ => evE C elt ρ) l acc ρ = some (ys, ρ2) → ∀ Kl : List AV → Env → Bool, Kl ys ρ2 = true →
              loopC (fun x ρ => assign t x (wipeS t.slots ρ)) (fun ρ K => wpCs Cw cs ρ K) (fun ρ K => wpE Cw elt ρ K) Kl l acc ρ = true := by
            intro l
            induction l with
            | nil => intro acc ρ ys ρ2 h Kl q; rw [evLoop] at h; cases h; exact q
            | cons x r ih =>
              intro acc ρ ys ρ2 h Kl q
              rw [evLoop] at h
              rw [loopC]
              cases e3 : assign t x (wipeS t.slots ρ) with
              | none => rw [e3] at h; cases h
              | some ρ3 =>
                rw [e3] at h
                simp only at h ⊢
                split at h
                · rename_i ρ4 e4
                  refine evCs_ok hC cs ρ3 true ρ4 e4 _ ?_
                  simp only [if_true]
                  split at h
                  · rename_i y ρ5 e5
                    exact evE_ok hC elt ρ4 y ρ5 e5 _ (ih _ _ _ _ h Kl q)
                  · cases h
                · rename_i ρ4 e4
                  refine evCs_ok hC cs ρ3 false ρ4 e4 _ ?_
                  exact ih _ _ _ _ h Kl q
                · cases h
          split at h
          · rename_i ys ρ2 e3
            cases h
            exact key _ _ _ _ _ e3 _ q
          · cases h
        · cases h
  | .call f as, ρ, w, ρ', h, K, q => by
    rw [evE] at h
    rw [wpE]
    cases e1 : evArgs C as ρ with
    | none => rw [e1] at h; cases h
    | some r =>
      obtain ⟨ss, ρ1⟩ := r
      rw [e1] at h
      simp only at h
      refine evArgs_ok hC as ρ ss ρ1 e1 _ ?_
      split at h
      · rename_i hc
        rw [if_pos hc]
        cases e2 : C f ss with
        | none => rw [e2] at h; cases h
        | some r =>
          obtain ⟨v, os⟩ := r
          rw [e2] at h
          simp only at h
          refine hC f ss v os e2 _ ?_
          cases e3 : giveBack as.lent os ρ1 with
          | none => rw [e3] at h; cases h
          | some ρ2 => rw [e3] at h; cases h; exact q
      · cases h
  | .roll i e, ρ, w, ρ', h, K, q => by rw [evE] at h; cases h
  | .disp as, ρ, w, ρ', h, K, q => by
    rw [evE] at h
    rw [wpE]
    cases e1 : evEs C false as ρ with
    | none => rw [e1] at h; cases h
    | some r =>
      obtain ⟨vs, ρ1⟩ := r
      rw [e1] at h
      simp only at h
      refine evEs_ok hC _ as ρ vs ρ1 e1 _ ?_
      cases e2 : fit vs with
      | none => rw [e2] at h; cases h
      | some v => rw [e2] at h; cases h; exact q
  | .pop i, ρ, w, ρ', h, K, q => by
    rw [evE] at h
    rw [wpE]
    split at h
    · rename_i e1
      try simp only [e1]
      split at h
      · rename_i e2
        cases h
        try simp only [e2]
        exact q
      · cases h
    · cases h
  | .popAt i e, ρ, w, ρ', h, K, q => by rw [evE] at h; cases h
  | .idx a e, ρ, w, ρ', h, K, q => by
    rw [evE] at h
    rw [wpE]
    split at h
    · rename_i xs ρ1 e1
      refine evE_ok hC a ρ _ ρ1 e1 _ ?_
      simp only
      split at h
      · rename_i x ρ2 e2
        refine evE_ok hC e ρ1 x ρ2 e2 _ ?_
        split at h
        · rename_i hc
          rw [if_pos hc]
          split at h
          · rename_i e3
            cases h
            try simp only [e3]
            exact q
          · cases h
        · cases h
      · cases h
    · cases h
theorem evEs_ok {C : DH} {Cw : Handler} (hC : Says C Cw) (pk : Bool) : ∀ (e : Es) (ρ : Env) (v : List AV) (ρ' : Env), evEs C pk e ρ = some (v, ρ') → ∀ K : List AV → Env → Bool, K v ρ' = true → wpEs Cw pk e ρ K = true
  | .nil, ρ, w, ρ', h, K, q => by
    rw [evEs] at h; cases h
    rw [wpEs]; exact q
  | .cons a r, ρ, w, ρ', h, K, q => by
    rw [evEs] at h
    rw [wpEs]
    split at h
    · rename_i v ρ1 e1
      refine evE_ok hC a ρ v ρ1 e1 _ ?_
      split at h
      · rename_i vs ρ2 e2
        cases h
        exact evEs_ok hC pk r ρ1 _ _ e2 _ q
      · cases h
    · cases h
  | .pk i r, ρ, w, ρ', h, K, q => by
    rw [evEs] at h
    rw [wpEs]
    split at h
    · rename_i hc
      rw [if_pos hc]
      split at h
      · rename_i vs ρ2 e2
        refine evEs_ok hC pk r ρ _ _ e2 _ ?_
        split at h
        · rename_i e3
          cases h
          try simp only [e3]
          exact q
        · cases h
      · cases h
    · cases h
theorem evArgs_ok {C : DH} {Cw : Handler} (hC : Says C Cw) : ∀ (e : Es) (ρ : Env) (v : List Slot) (ρ' : Env), evArgs C e ρ = some (v, ρ') → ∀ K : List Slot → Env → Bool, K v ρ' = true → wpArgs Cw e ρ K = true
  | .nil, ρ, w, ρ', h, K, q => by
    rw [evArgs] at h; cases h
    rw [wpArgs]; exact q
  | .cons a r, ρ, w, ρ', h, K, q => by
    rw [evArgs] at h
    rw [wpArgs]
    split at h
    · rename_i v ρ1 e1
      refine evE_ok hC a ρ v ρ1 e1 _ ?_
      split at h
      · rename_i vs ρ2 e2
        cases h
        exact evArgs_ok hC r ρ1 _ _ e2 _ q
      · cases h
    · cases h
  | .pk i r, ρ, w, ρ', h, K, q => by
    rw [evArgs] at h
    rw [wpArgs]
    split at h
    · rename_i hc
      rw [if_pos hc]
      split at h
      · rename_i vs ρ2 e2
        refine evArgs_ok hC r ρ _ _ e2 _ ?_
        split at h
        · rename_i e3
          cases h
          try simp only [e3]
          exact q
        · cases h
      · cases h
    · cases h
theorem evCs_ok {C : DH} {Cw : Handler} (hC : Says C Cw) : ∀ (e : Es) (ρ : Env) (v : Bool) (ρ' : Env), evCs C e ρ = some (v, ρ') → ∀ K : Bool → Env → Bool, K v ρ' = true → wpCs Cw e ρ K = true
  | .nil, ρ, w, ρ', h, K, q => by
    rw [evCs] at h; cases h
    rw [wpCs]; exact q
  | .cons a r, ρ, w, ρ', h, K, q => by
    rw [evCs] at h
    rw [wpCs]
    split at h
    · rename_i v ρ1 e1
      refine evE_ok hC a ρ v ρ1 e1 _ ?_
      split at h
      · rename_i e2
        try simp only [e2]
        exact evCs_ok hC r ρ1 _ _ h _ q
      · rename_i e2
        cases h
        try simp only [e2]
        exact q
      · cases h
    · cases h
  | .pk i r, ρ, w, ρ', h, K, q => by rw [evCs] at h; cases h
end
/-- what an outcome asks -/
def Asks (D : Ks) : Out → Prop
  | .nx ρ => D.nx ρ = true
  | .rt v ρ => D.rt v ρ = true
  | .bk ρ => D.bk ρ = true
  | .ct ρ => D.ct ρ = true
  | .bad => False
theorem tstO_ok {C : DH} {Cw : Handler} (hC : Says C Cw) {e : E} {ρ ρ1 : Env} {b : Bool} (h : tstO (evE C e ρ) = some (b, ρ1)) {K : EK} (hK : ∀ v, truthy v = some b → K v ρ1 = true) : wpE Cw e ρ K = true := by
  cases e1 : evE C e ρ with
  | none => rw [e1] at h; cases h
  | some r =>
    obtain ⟨v, ρ2⟩ := r
    rw [e1] at h
    simp only [tstO] at h
    split at h
    · rename_i c hc
      cases h
      exact evE_ok hC e ρ v _ e1 K (hK v hc)
    · cases h
theorem evS_ok {C : DH} {Cw : Handler} (hC : Says C Cw) {N : Nat} : ∀ (s : S) (ρ : Env) (D : Ks), Asks D (evS C N s ρ) → wpS Cw N s ρ D = true
  | .skip, ρ, D, h => h
  | .brk, ρ, D, h => h
  | .cnt, ρ, D, h => h
  | .stuck, ρ, D, h => h.elim
  | .seq a b, ρ, D, h => by
    rw [wpS]
    rw [evS] at h
    refine evS_ok hC a ρ _ ?_
    cases e1 : evS C N a ρ with
    | nx ρ1 => rw [e1] at h; exact evS_ok hC b ρ1 D h
    | rt v ρ1 => rw [e1] at h; exact h
    | bk ρ1 => rw [e1] at h; exact h
    | ct ρ1 => rw [e1] at h; exact h
    | bad => rw [e1] at h; exact h.elim
  | .asg t e, ρ, D, h => by
    rw [wpS]
    rw [evS] at h
    split at h
    · rename_i v ρ1 e1
      refine evE_ok hC e ρ v ρ1 e1 _ ?_
      split at h
      · rename_i e2; (try simp only [e2]); exact h
      · exact h.elim
    · exact h.elim
  | .own i e, ρ, D, h => by
    rw [wpS]
    rw [evS] at h
    split at h
    · rename_i hc
      rw [if_pos hc]
      split at h
      · rename_i v ρ1 e1
        refine evE_ok hC e ρ v ρ1 e1 _ ?_
        split at h
        · rename_i e2
          try simp only [e2]
          split at h
          · rename_i hc2; rw [if_pos hc2]; exact h
          · exact h.elim
        · exact h.elim
      · exact h.elim
    · exact h.elim
  | .par is as, ρ, D, h => by
    rw [wpS]
    rw [evS] at h
    split at h
    · rename_i hc
      rw [if_pos hc]
      split at h
      · rename_i v ρ1 e1
        refine evEs_ok hC _ as ρ v ρ1 e1 _ ?_
        split at h
        · rename_i e2; (try simp only [e2]); exact h
        · exact h.elim
      · exact h.elim
    · exact h.elim
  | .app i e, ρ, D, h => by
    rw [wpS]
    rw [evS] at h
    split at h
    · rename_i hc
      rw [if_pos hc]
      split at h
      · rename_i v ρ1 e1
        refine evE_ok hC e ρ v ρ1 e1 _ ?_
        split at h
        · rename_i e2
          try simp only [e2]
          split at h
          · rename_i hc2; rw [if_pos hc2]; exact h
          · exact h.elim
        · exact h.elim
      · exact h.elim
    · exact h.elim
  | .put i ke e, ρ, D, h => by
    rw [wpS]
    rw [evS] at h
    split at h
    · rename_i hc
      rw [if_pos hc]
      split at h
      · rename_i v ρ1 e1
        refine evE_ok hC e ρ v ρ1 e1 _ ?_
        split at h
        · rename_i k ρ2 e2
          refine evE_ok hC ke ρ1 k ρ2 e2 _ ?_
          split at h
          · rename_i e3
            try simp only [e3]
            split at h
            · rename_i e4; (try simp only [e4]); exact h
            · exact h.elim
          · rename_i e3
            try simp only [e3]
            split at h
            · rename_i hc2; rw [if_pos hc2]; exact h
            · exact h.elim
          · exact h.elim
        · exact h.elim
      · exact h.elim
    · exact h.elim
  | .ife c a b, ρ, D, h => by
    rw [wpS]
    rw [evS] at h
    split at h
    · rename_i ρ1 e1
      exact tstO_ok hC e1 fun v hv => by simp only [hv]; exact evS_ok hC a ρ1 D h
    · rename_i ρ1 e1
      exact tstO_ok hC e1 fun v hv => by simp only [hv]; exact evS_ok hC b ρ1 D h
    · exact h.elim
  | .whl c b, ρ, D, h => by
    rw [wpS]
    rw [evS] at h
    have key : ∀ (n : Nat) (ρ : Env), Asks D (evWhile (fun ρ => tstO (evE C c ρ)) (fun ρ => evS C N b ρ) n ρ) →
        whileN (fun ρ K => wpE Cw c ρ fun v ρ1 => match truthy v with | some k => K k ρ1 | none => false) (fun ρ D => wpS Cw N b ρ D) D n ρ = true := by
      intro n
      induction n with
      | zero => intro ρ h; exact h.elim
      | succ n ih =>
        intro ρ h
        rw [evWhile] at h
        rw [whileN]
        split at h
        · rename_i ρ1 e1
          refine tstO_ok hC e1 fun v hv => ?_
          simp only [hv, if_true]
          refine evS_ok hC b ρ1 _ ?_
          cases e2 : evS C N b ρ1 with
          | nx ρ2 => rw [e2] at h; exact ih ρ2 h
          | rt v ρ2 => rw [e2] at h; exact h
          | bk ρ2 => rw [e2] at h; exact h
          | ct ρ2 => rw [e2] at h; exact ih ρ2 h
          | bad => rw [e2] at h; exact h.elim
        · rename_i ρ1 e1
          refine tstO_ok hC e1 fun v hv => ?_
          simp only [hv]
          exact h
        · exact h.elim
    exact key N ρ h
  | .for_ k as t b, ρ, D, h => by
    rw [wpS]
    rw [evS] at h
    split at h
    · rename_i vs ρ1 e1
      refine evEs_ok hC _ as ρ vs ρ1 e1 _ ?_
      split at h
      · rename_i items e2
        try simp only [e2]
        have key : ∀ (l : List AV) (ρ : Env), Asks D (evFor (assign t) (fun ρ => evS C N b ρ) l ρ) → forN (assign t) (fun ρ D => wpS Cw N b ρ D) D l ρ = true := by
          intro l
          induction l with
          | nil => intro ρ h; exact h
          | cons x r ih =>
            intro ρ h
            rw [evFor] at h
            rw [forN]
            split at h
            · exact h.elim
            · rename_i ρ2 e3
              try simp only [e3]
              refine evS_ok hC b ρ2 _ ?_
              cases e4 : evS C N b ρ2 with
              | nx ρ3 => rw [e4] at h; exact ih ρ3 h
              | rt v ρ3 => rw [e4] at h; exact h
              | bk ρ3 => rw [e4] at h; exact h
              | ct ρ3 => rw [e4] at h; exact ih ρ3 h
              | bad => rw [e4] at h; exact h.elim
        exact key _ _ h
      · exact h.elim
    · exact h.elim
  | .ret e, ρ, D, h => by
    rw [wpS]
    rw [evS] at h
    split at h
    · rename_i v ρ1 e1
      exact evE_ok hC e ρ v ρ1 e1 _ h
    · exact h.elim
  | .exp e, ρ, D, h => by
    rw [wpS]
    rw [evS] at h
    split at h
    · rename_i v ρ1 e1
      exact evE_ok hC e ρ v ρ1 e1 _ h
    · exact h.elim
theorem evF_ok {P : List Fn} {N : Nat} : ∀ (k : Nat), Says (evF P N k) (wpF P N k)
  | 0 => fun f a v o h => by cases h
  | k + 1 => fun f a v o h K q => by
    rw [evF] at h
    rw [wpF]
    dsimp only at h ⊢
    split at h
    · cases h
    · rename_i d hd
      split at h
      · rename_i hc
        try simp only [hd]
        rw [if_pos hc]
        refine evS_ok (evF_ok k) _ _ _ ?_
        generalize evS (evF P N k) N d.body (a ++ List.replicate (d.ns - d.ar) Slot.none) = r at h
        cases r with
        | nx ρ =>
          simp only [evEnd] at h
          split at h
          · rename_i os ho
            cases h
            show (match outs a ρ with | some os => K .none os | none => false) = true
            rw [ho]; exact q
          · cases h
        | rt w ρ =>
          simp only [evEnd] at h
          split at h
          · rename_i os ho
            cases h
            show (match outs a ρ with | some os => K v os | none => false) = true
            rw [ho]; exact q
          · cases h
        | _ => cases h
      · cases h
end G
namespace AR

/-- r is the rank of a corner whose arrows lead to corners with the ranks l -/
def IsRk (r : Nat) (l : List Nat) : Prop :=
  (r % 2 = 1 ∧ (r - 1) ∈ l ∧ ∀ x ∈ l, x % 2 = 0 → r ≤ x + 1) ∨ (r % 2 = 0 ∧ (∀ x ∈ l, x % 2 = 1 ∧ x < r) ∧ (r = 0 ∨ (r - 1) ∈ l))

/-- does a corner without a rank get the rank r -/
def fitsR (r : Nat) (row : List (Option Nat)) : Bool :=
  if r % 2 = 1 then row.contains (some (r - 1)) else row.all fun o => match o with
    | some v => v % 2 == 1
    | none => false
def stepR (ends : List (List Nat)) (found : List (Option Nat)) (r : Nat) : List (Option Nat) :=
  ends.zipIdx.map fun p => if (found.getD p.2 none).isNone && fitsR r (p.1.map fun e => found.getD e none) then some r else found.getD p.2 none
def ranksN (n : Nat) (ends : List (List Nat)) : List (Option Nat) :=
  (List.range n).foldl (stepR ends) (List.replicate n none)

/-- a game without ends: R tells the ranks -/
structure Ranked (n : Nat) (ends : List (List Nat)) (R : Nat → Nat) : Prop where
  len : ends.length = n
  lt : ∀ (c : Nat) (row : List Nat), ends[c]? = some row → ∀ e ∈ row, e < n
  rk : ∀ (c : Nat) (row : List Nat), ends[c]? = some row → IsRk (R c) (row.map R)

def upTo (n m : Nat) (R : Nat → Nat) : List (Option Nat) := (List.range n).map fun c => if R c < m then some (R c) else none
theorem upTo_get {n m : Nat} {R : Nat → Nat} {c : Nat} (h : c < n) : (upTo n m R).getD c none = if R c < m then some (R c) else none := by
  simp [upTo, List.getD, h]
theorem step_upTo {n m : Nat} {ends : List (List Nat)} {R : Nat → Nat} (G : Ranked n ends R) : stepR ends (upTo n m R) m = upTo n (m + 1) R := by
  apply List.ext_getElem?
  intro c
  simp only [stepR, List.getElem?_map, List.getElem?_zipIdx, Option.map_map]
  by_cases hc : c < n
  · have hl : c < ends.length := by rw [G.len]; exact hc
    have e : ends[c]? = some ends[c] := List.getElem?_eq_getElem hl
    have hlt := G.lt c _ e
    have hrk := G.rk c _ e
    generalize ends[c] = row at e hlt hrk
    rw [e]
    have hu : (upTo n (m + 1) R)[c]? = some (if R c < m + 1 then some (R c) else none) := by simp [upTo, hc]
    rw [hu]
    simp only [Option.map_some, Function.comp_apply, Nat.zero_add, upTo_get hc]
    have hrow : (row.map fun e => (upTo n m R).getD e none) = row.map fun e => if R e < m then some (R e) else none := by
      apply List.map_congr_left
      intro e he
      exact upTo_get (hlt e he)
    rw [hrow]
    have key : ¬ R c < m → (fitsR m (row.map fun e => if R e < m then some (R e) else none) = true ↔ R c = m) := by
      intro hm
      unfold fitsR
      split
      · rename_i h1
        simp only [List.contains_iff_mem, List.mem_map]
        constructor
        · rintro ⟨e, he, h2⟩
          split at h2
          · rename_i h3
            have h4 : R e = m - 1 := by simpa using h2
            rcases hrk with ⟨a, b, c⟩ | ⟨a, b, c⟩
            · have := c (R e) (List.mem_map_of_mem he) (by omega)
              omega
            · have := (b (R e) (List.mem_map_of_mem he)).1
              omega
          · cases h2
        · intro hR
          rcases hrk with ⟨a, b, c⟩ | ⟨a, b, c⟩
          · rw [List.mem_map] at b
            obtain ⟨e, he, h2⟩ := b
            refine ⟨e, he, ?_⟩
            rw [if_pos (by omega)]
            congr 1
            omega
          · omega
      · rename_i h1
        simp only [List.all_eq_true, List.mem_map]
        constructor
        · intro h
          have h' : ∀ e ∈ row, R e < m ∧ R e % 2 = 1 := by
            intro e he
            have := h _ ⟨e, he, rfl⟩
            split at this
            · rename_i v hv
              split at hv
              · rename_i h3
                cases hv
                exact ⟨h3, by simpa using this⟩
              · cases hv
            · cases this
          rcases hrk with ⟨a, b, c⟩ | ⟨a, b, c⟩
          · rw [List.mem_map] at b
            obtain ⟨e, he, h2⟩ := b
            have := h' e he
            omega
          · rcases c with c | c
            · omega
            · rw [List.mem_map] at c
              obtain ⟨e, he, h2⟩ := c
              have := h' e he
              omega
        · rintro hR o ⟨e, he, rfl⟩
          rcases hrk with ⟨a, b, c⟩ | ⟨a, b, c⟩
          · omega
          · obtain ⟨h2, h3⟩ := b (R e) (List.mem_map_of_mem he)
            rw [if_pos (by omega)]
            simp [h2]
    by_cases hm : R c < m
    · have : R c < m + 1 := by omega
      simp [hm, this]
    · have k := key hm
      simp only [if_neg hm, Option.isNone_none, Bool.true_and]
      by_cases hR : R c = m
      · rw [if_pos (k.mpr hR), if_pos (by omega)]; simp [hR]
      · have : ¬ (fitsR m (row.map fun e => if R e < m then some (R e) else none) = true) := fun z => hR (k.mp z)
        rw [if_neg this, if_neg (by omega)]
  · have : ends[c]? = none := by simp; rw [G.len]; omega
    rw [this]
    have : (upTo n (m + 1) R)[c]? = none := by
      unfold upTo
      rw [List.getElem?_eq_none_iff, List.length_map, List.length_range]
      omega
    rw [this]
    rfl
theorem ranks_fold {n : Nat} {ends : List (List Nat)} {R : Nat → Nat} (G : Ranked n ends R) : ∀ k, (List.range k).foldl (stepR ends) (List.replicate n none) = upTo n k R := by
  intro k
  induction k with
  | zero =>
    simp [upTo]
    apply List.ext_getElem?
    intro i
    simp [List.getElem?_replicate]
    split <;> simp_all
  | succ k ih => rw [List.range_succ, List.foldl_append, ih]; simp [step_upTo G]

theorem nodup_le {α : Type} [BEq α] [LawfulBEq α] : ∀ {l m : List α}, l.Nodup → (∀ x ∈ l, x ∈ m) → l.length ≤ m.length
  | [], _, _, _ => by simp
  | x :: l, m, hn, h => by
    have hx := h x (by simp)
    rw [List.nodup_cons] at hn
    have := nodup_le (l := l) (m := m.erase x) hn.2 fun y hy => by
      have hy' := h y (by simp [hy])
      have hne : y ≠ x := fun e => hn.1 (e ▸ hy)
      exact (List.mem_erase_of_ne hne).mpr hy'
    rw [List.length_erase_of_mem hx] at this
    have hp : 0 < m.length := List.length_pos_of_mem hx
    simp
    omega
/-- the ranks are less than the number of corners -/
theorem rank_lt {n : Nat} {ends : List (List Nat)} {R : Nat → Nat} (G : Ranked n ends R) : ∀ c, c < n → R c < n := by
  have chain : ∀ v c, c < n → R c = v → ∀ u ≤ v, ∃ d, d < n ∧ R d = u := by
    intro v
    induction v with
    | zero => intro c hc h u hu; exact ⟨c, hc, by omega⟩
    | succ v ih =>
      intro c hc h u hu
      by_cases hu' : u = v + 1
      · exact ⟨c, hc, by omega⟩
      · have hl : c < ends.length := by rw [G.len]; exact hc
        have e : ends[c]? = some ends[c] := List.getElem?_eq_getElem hl
        have hlt := G.lt c _ e
        have hrk := G.rk c _ e
        have hm : v ∈ (ends[c]).map R := by
          rcases hrk with ⟨a, b, _⟩ | ⟨a, b, c1 | c1⟩
          · rw [h] at b; exact b
          · omega
          · rw [h] at c1; exact c1
        rw [List.mem_map] at hm
        obtain ⟨d, hd, h2⟩ := hm
        exact ih d (hlt d hd) h2 u (by omega)
  intro c hc
  have := nodup_le (l := List.range (R c + 1)) (m := (List.range n).map R) List.nodup_range (fun x hx => by
    rw [List.mem_range] at hx
    obtain ⟨d, hd, h2⟩ := chain (R c) c hc rfl x (by omega)
    rw [List.mem_map]
    exact ⟨d, by simpa using hd, h2⟩)
  simp at this
  omega
theorem ranks_all {n : Nat} {ends : List (List Nat)} {R : Nat → Nat} (G : Ranked n ends R) : ranksN n ends = (List.range n).map fun c => some (R c) := by
  rw [ranksN, ranks_fold G]
  unfold upTo
  apply List.map_congr_left
  intro c hc
  rw [if_pos (rank_lt G c (by simpa using hc))]
/-- is a rank row right at a corner -/
def fitsRow (r : Nat) (l : List Nat) : Bool := if r % 2 = 1 then l.any fun v => v % 2 == 0 && decide (v < r) else l.all fun v => v % 2 == 1 && decide (v < r)
theorem fits_rk {r : Nat} {l : List Nat} (h : IsRk r l) : fitsRow r l = true := by
  unfold fitsRow
  rcases h with ⟨a, b, c⟩ | ⟨a, b, c⟩
  · rw [if_pos a, List.any_eq_true]
    exact ⟨_, b, by simp; omega⟩
  · rw [if_neg (by omega), List.all_eq_true]
    intro x hx
    have := b x hx
    simp; omega

/-- a rank is there for every list -/
def rankOf (l : List Nat) : Nat := match (l.filter fun x => x % 2 == 0).min? with
  | some m => m + 1
  | none => match l.max? with
    | some m => m + 1
    | none => 0
theorem rankOf_is (l : List Nat) : IsRk (rankOf l) l := by
  unfold rankOf
  split
  · rename_i m hm
    rw [List.min?_eq_some_iff] at hm
    obtain ⟨h1, h2⟩ := hm
    rw [List.mem_filter] at h1
    have : m % 2 = 0 := by simpa using h1.2
    refine .inl ⟨by omega, by simpa using h1.1, fun x hx hx2 => ?_⟩
    have := h2 x (by simp [List.mem_filter, hx, hx2])
    omega
  · rename_i hm
    rw [List.min?_eq_none_iff] at hm
    have hodd : ∀ x ∈ l, x % 2 = 1 := by
      intro x hx
      have := List.filter_eq_nil_iff.mp hm x hx
      simp at this
      exact this
    split
    · rename_i m hm2
      rw [List.max?_eq_some_iff] at hm2
      obtain ⟨h1, h2⟩ := hm2
      have := hodd m h1
      refine .inr ⟨by omega, fun x hx => ⟨hodd x hx, ?_⟩, .inr (by simpa using h1)⟩
      have := h2 x hx
      omega
    · rename_i hm2
      rw [List.max?_eq_none_iff] at hm2
      subst hm2
      exact .inr ⟨rfl, by simp, .inl rfl⟩
end AR
namespace G
open PySem

/-! ### symbolic evaluation in direct style: rules for simp -/
section
variable {C : DH} {N : Nat} {ρ ρ1 ρ2 : Env} {K : Handler}
def thenO {α β : Type} (o : Option (α × Env)) (f : α → Env → Option β) : Option β := match o with
  | some (a, ρ) => f a ρ
  | none => none
@[simp] theorem thenO_some {α β : Type} {a : α} {f : α → Env → Option β} : thenO (some (a, ρ)) f = f a ρ := rfl
@[simp] theorem thenO_none {α β : Type} {f : α → Env → Option β} : thenO none f = none := rfl
@[simp] theorem thenO_ite {α β : Type} {c : Prop} [Decidable c] {a b : Option (α × Env)} {f : α → Env → Option β} : thenO (if c then a else b) f = if c then thenO a f else thenO b f := by split <;> rfl
/-- a test's outcome -/
def brB {β : Type} (t : Option Bool) (a b : Option β) : Option β := match t with
  | some true => a
  | some false => b
  | none => none
@[simp] theorem brB_some {β : Type} {t : Bool} {a b : Option β} : brB (some t) a b = if t = true then a else b := by cases t <;> rfl
@[simp] theorem truthy_bool {b : Bool} : truthy (.bool b) = some b := rfl
@[simp] theorem truthy_int {i : Int} : truthy (.int i) = some (i != 0) := rfl
@[simp] theorem truthy_none : truthy .none = some false := rfl
@[simp] theorem truthy_list {xs : List AV} : truthy (.list xs) = some (!xs.isEmpty) := rfl
@[simp] theorem truthy_tuple {xs : List AV} : truthy (.tuple xs) = some (!xs.isEmpty) := rfl
/-- two ways that both answer a bool -/
@[simp] theorem ite_bools {c : Prop} [Decidable c] {a b : Bool} : (if c then some ((PyData.bool a, ρ) : AV × Env) else some (.bool b, ρ)) = some (.bool (if c then a else b), ρ) := by split <;> rfl
@[simp] theorem ite_ints {c : Prop} [Decidable c] {a b : Int} : (if c then some ((PyData.int a, ρ) : AV × Env) else some (.int b, ρ)) = some (.int (if c then a else b), ρ) := by split <;> rfl

@[simp] theorem e_cst {v : AV} : evE C (.cst v) ρ = some (v, ρ) := by rw [evE]
@[simp] theorem e_var {i : Nat} : evE C (.var i) ρ = readVar i ρ := by rw [evE]
@[simp] theorem e_prim {p : Prim} {as : Es} : evE C (.prim p as) ρ = thenO (evEs C p.pkOk as ρ) fun vs ρ1 => (primS p vs).map fun v => (v, ρ1) := by
  rw [evE]; cases evEs C p.pkOk as ρ with
  | none => rfl
  | some r => obtain ⟨vs, ρ1⟩ := r; dsimp only [thenO]; cases primS p vs <;> rfl
@[simp] theorem e_and {a b : E} : evE C (.and a b) ρ = thenO (evE C a ρ) fun v ρ1 => brB (truthy v) (evE C b ρ1) (some (v, ρ1)) := by
  rw [evE]; cases evE C a ρ with
  | none => rfl
  | some r => obtain ⟨v, ρ1⟩ := r; dsimp only [thenO]; cases truthy v with
    | none => rfl
    | some b => cases b <;> rfl
@[simp] theorem e_or {a b : E} : evE C (.or a b) ρ = thenO (evE C a ρ) fun v ρ1 => brB (truthy v) (some (v, ρ1)) (evE C b ρ1) := by
  rw [evE]; cases evE C a ρ with
  | none => rfl
  | some r => obtain ⟨v, ρ1⟩ := r; dsimp only [thenO]; cases truthy v with
    | none => rfl
    | some b => cases b <;> rfl
@[simp] theorem e_not {a : E} : evE C (.not a) ρ = thenO (evE C a ρ) fun v ρ1 => (truthy v).map fun b => (.bool !b, ρ1) := by
  rw [evE]; cases evE C a ρ with
  | none => rfl
  | some r => obtain ⟨v, ρ1⟩ := r; dsimp only [thenO]; cases truthy v <;> rfl
@[simp] theorem e_ife {c a b : E} : evE C (.ife c a b) ρ = thenO (evE C c ρ) fun v ρ1 => brB (truthy v) (evE C a ρ1) (evE C b ρ1) := by
  rw [evE]; cases evE C c ρ with
  | none => rfl
  | some r => obtain ⟨v, ρ1⟩ := r; dsimp only [thenO]; cases truthy v with
    | none => rfl
    | some b => cases b <;> rfl
def chainK (p : Option AV) (ρ2 : Env) (k : Option (AV × Env)) : Option (AV × Env) := match p with
  | some (.bool true) => k
  | some (.bool false) => some (.bool false, ρ2)
  | _ => none
@[simp] theorem chainK_bool {b : Bool} {k : Option (AV × Env)} : chainK (some (.bool b)) ρ2 k = if b = true then k else some (.bool false, ρ2) := by cases b <;> rfl
@[simp] theorem e_chain {p q : Prim} {a b c : E} : evE C (.chain p q a b c) ρ = thenO (evE C a ρ) fun x ρ1 => thenO (evE C b ρ1) fun y ρ2 => chainK (primS p [x, y]) ρ2 (thenO (evE C c ρ2) fun z ρ3 => (primS q [y, z]).map fun v => (v, ρ3)) := by
  rw [evE]; cases evE C a ρ with
  | none => rfl
  | some r =>
    obtain ⟨x, ρ1⟩ := r; dsimp only [thenO]; cases evE C b ρ1 with
    | none => rfl
    | some r =>
      obtain ⟨y, ρ2⟩ := r; dsimp only [thenO]; cases primS p [x, y] with
      | none => rfl
      | some t => cases t with
        | bool t => cases t with
          | true =>
            dsimp only [chainK]; cases evE C c ρ2 with
            | none => rfl
            | some r => obtain ⟨z, ρ3⟩ := r; dsimp only; cases primS q [y, z] <;> rfl
          | false => rfl
        | _ => rfl
@[simp] theorem e_disp {as : Es} : evE C (.disp as) ρ = thenO (evEs C false as ρ) fun vs ρ1 => (fit vs).map fun vs => (.list vs, ρ1) := by
  rw [evE]; cases evEs C false as ρ with
  | none => rfl
  | some r => obtain ⟨vs, ρ1⟩ := r; dsimp only [thenO]; cases fit vs <;> rfl
@[simp] theorem e_call {f : Nat} {as : Es} : evE C (.call f as) ρ = thenO (evArgs C as ρ) fun ss ρ1 => if (lentNo as.lent).Nodup then (C f ss).bind fun r => (giveBack as.lent r.2 ρ1).map fun ρ2 => (r.1, ρ2) else none := by
  rw [evE]; cases evArgs C as ρ with
  | none => rfl
  | some r =>
    obtain ⟨ss, ρ1⟩ := r; dsimp only [thenO]; split
    · cases C f ss with
      | none => rfl
      | some r => obtain ⟨v, os⟩ := r; dsimp only [Option.bind]; cases giveBack as.lent os ρ1 <;> rfl
    · rfl
@[simp] theorem e_idx {a e : E} : evE C (.idx a e) ρ = thenO (evE C a ρ) fun v ρ1 => match v with
    | .list xs => thenO (evE C e ρ1) fun x ρ2 => if eqOk x (.list xs) then (indexS x xs 0).map fun n => (.int n, ρ2) else none
    | _ => none := by
  rw [evE]; cases evE C a ρ with
  | none => rfl
  | some r =>
    obtain ⟨v, ρ1⟩ := r; cases v <;> try rfl
    rename_i xs; dsimp only [thenO]; cases evE C e ρ1 with
    | none => rfl
    | some r =>
      obtain ⟨x, ρ2⟩ := r; dsimp only; split
      · cases indexS x xs 0 <;> rfl
      · rfl
@[simp] theorem e_nil {pk : Bool} : evEs C pk .nil ρ = some ([], ρ) := by rw [evEs]
@[simp] theorem e_cons {pk : Bool} {a : E} {r : Es} : evEs C pk (.cons a r) ρ = thenO (evE C a ρ) fun v ρ1 => thenO (evEs C pk r ρ1) fun vs ρ2 => some (v :: vs, ρ2) := by
  rw [evEs]; cases evE C a ρ with
  | none => rfl
  | some x =>
    obtain ⟨v, ρ1⟩ := x; dsimp only [thenO]; cases evEs C pk r ρ1 with
    | none => rfl
    | some y => rfl
@[simp] theorem e_pk {i : Nat} {r : Es} : evEs C true (.pk i r) ρ = if (peek i ρ).isSome then thenO (evEs C true r ρ) fun vs ρ2 => (peek i ρ2).map fun v => (v :: vs, ρ2) else none := by
  rw [evEs]; simp only [Bool.true_and]; split
  · cases evEs C true r ρ with
    | none => rfl
    | some y => obtain ⟨vs, ρ2⟩ := y; dsimp only [thenO]; cases peek i ρ2 <;> rfl
  · rfl
@[simp] theorem e_anil : evArgs C .nil ρ = some ([], ρ) := by rw [evArgs]
@[simp] theorem e_acons {a : E} {r : Es} : evArgs C (.cons a r) ρ = thenO (evE C a ρ) fun v ρ1 => thenO (evArgs C r ρ1) fun ss ρ2 => some (.val v :: ss, ρ2) := by
  rw [evArgs]; cases evE C a ρ with
  | none => rfl
  | some x =>
    obtain ⟨v, ρ1⟩ := x; dsimp only [thenO]; cases evArgs C r ρ1 with
    | none => rfl
    | some y => rfl
@[simp] theorem e_apk {i : Nat} {r : Es} : evArgs C (.pk i r) ρ = if (lend i ρ).isSome then thenO (evArgs C r ρ) fun ss ρ2 => (lend i ρ2).map fun s => (s :: ss, ρ2) else none := by
  rw [evArgs]; split
  · cases evArgs C r ρ with
    | none => rfl
    | some y => obtain ⟨vs, ρ2⟩ := y; dsimp only [thenO]; cases lend i ρ2 <;> rfl
  · rfl
@[simp] theorem e_true : evCs C .nil ρ = some (true, ρ) := by rw [evCs]
@[simp] theorem e_c {a : E} {r : Es} : evCs C (.cons a r) ρ = thenO (evE C a ρ) fun v ρ1 => brB (truthy v) (evCs C r ρ1) (some (false, ρ1)) := by
  rw [evCs]; cases evE C a ρ with
  | none => rfl
  | some x =>
    obtain ⟨v, ρ1⟩ := x; dsimp only [thenO]; cases truthy v with
    | none => rfl
    | some b => cases b <;> rfl
@[simp] theorem ite_conds {c : Prop} [Decidable c] {a b : Bool} : (if c then some ((a, ρ) : Bool × Env) else some (b, ρ)) = some (if c then a else b, ρ) := by split <;> rfl

/-! ### names -/
@[simp] theorem lent_nil : Es.lent .nil = [] := by rw [Es.lent]
@[simp] theorem lent_cons {a : E} {r : Es} : Es.lent (.cons a r) = Option.none :: r.lent := by rw [Es.lent]
@[simp] theorem lent_pk {i : Nat} {r : Es} : Es.lent (.pk i r) = some i :: r.lent := by rw [Es.lent]
@[simp] theorem lentNo_nil : lentNo [] = [] := rfl
@[simp] theorem lentNo_none {r : List (Option Nat)} : lentNo (Option.none :: r) = lentNo r := rfl
@[simp] theorem lentNo_some {i : Nat} {r : List (Option Nat)} : lentNo (some i :: r) = i :: lentNo r := rfl
@[simp] theorem gb_nil : giveBack [] [] ρ = some ρ := rfl
@[simp] theorem gb_none {r : List (Option Nat)} {s : Slot} {ss : List Slot} : giveBack (Option.none :: r) (s :: ss) ρ = giveBack r ss ρ := rfl
theorem rv_val {i : Nat} {v : AV} (h : ρ[i]? = some (.val v)) : readVar i ρ = some (v, ρ) := by unfold readVar; rw [h]
@[simp] theorem rv_0 {v : AV} {r : Env} : readVar 0 (.val v :: r) = some (v, .val v :: r) := rfl
@[simp] theorem rv_0l {xs : List AV} {r : Env} : readVar 0 (.olst false xs :: r) = some (.list xs, .val (.list xs) :: r) := rfl
@[simp] theorem rv_0d {t : Nat} {kvs : List (AV × AV)} {r : Env} : readVar 0 (.odct false t kvs :: r) = some (mkD t kvs, .val (mkD t kvs) :: r) := rfl
@[simp] theorem rv_s {i : Nat} {s : Slot} {r : Env} : readVar (i + 1) (s :: r) = thenO (readVar i r) fun v r' => some (v, s :: r') := by
  unfold readVar; simp only [List.getElem?_cons_succ]
  cases h : r[i]? with
  | none => rfl
  | some t => cases t with
    | olst b xs => cases b <;> rfl
    | odct b t xs => cases b <;> rfl
    | _ => rfl
@[simp] theorem pk_0v {v : AV} {r : Env} : peek 0 (.val v :: r) = some v := rfl
@[simp] theorem pk_0l {b : Bool} {xs : List AV} {r : Env} : peek 0 (.olst b xs :: r) = some (.list xs) := rfl
@[simp] theorem pk_0d {b : Bool} {t : Nat} {kvs : List (AV × AV)} {r : Env} : peek 0 (.odct b t kvs :: r) = some (mkD t kvs) := rfl
@[simp] theorem pk_s {i : Nat} {s : Slot} {r : Env} : peek (i + 1) (s :: r) = peek i r := by unfold peek; simp only [List.getElem?_cons_succ]
@[simp] theorem isOl_0 {b : Bool} {xs : List AV} {r : Env} : isOl 0 (.olst b xs :: r) = true := rfl
@[simp] theorem isOl_s {i : Nat} {s : Slot} {r : Env} : isOl (i + 1) (s :: r) = isOl i r := by unfold isOl; simp only [List.getElem?_cons_succ]
@[simp] theorem as_nm {i : Nat} {v : AV} : assign (.nm i) v ρ = if i < ρ.length then some (ρ.set i (.val v)) else none := rfl
@[simp] theorem as_tp {is : List Nat} {vs : List AV} : assign (.tp is) (.tuple vs) ρ = setAll is vs ρ := rfl
@[simp] theorem sa_nil : setAll [] [] ρ = some ρ := rfl
@[simp] theorem sa_cons {i : Nat} {is : List Nat} {v : AV} {vs : List AV} : setAll (i :: is) (v :: vs) ρ = if i < ρ.length then setAll is vs (ρ.set i (.val v)) else none := rfl
@[simp] theorem wipe_nil : wipeS [] ρ = ρ := rfl
@[simp] theorem wipe_cons {i : Nat} {is : List Nat} : wipeS (i :: is) ρ = (wipeS is ρ).set i .none := rfl
@[simp] theorem wipeable_0n {r : Env} : wipeable 0 (.none :: r) = true := rfl
@[simp] theorem wipeable_0v {v : AV} {r : Env} : wipeable 0 (.val v :: r) = true := rfl
@[simp] theorem wipeable_s {i : Nat} {s : Slot} {r : Env} : wipeable (i + 1) (s :: r) = wipeable i r := by unfold wipeable; simp only [List.getElem?_cons_succ]
@[simp] theorem slots_nm {i : Nat} : Tgt.slots (.nm i) = [i] := rfl
@[simp] theorem slots_tp {is : List Nat} : Tgt.slots (.tp is) = is := rfl

/-! ### statements: what is wanted of the outcome -/
@[irreducible] def SS (C : DH) (N : Nat) (s : S) (ρ : Env) (Q : Out → Prop) : Prop := Q (evS C N s ρ)
theorem ss_def {C : DH} {N : Nat} {s : S} {ρ : Env} {Q : Out → Prop} : SS C N s ρ Q = Q (evS C N s ρ) := by unfold SS; rfl
def SQ (C : DH) (N : Nat) (b : S) (Q : Out → Prop) (o : Out) : Prop := match o with
  | .nx ρ1 => SS C N b ρ1 Q
  | o => Q o
def onO {α : Type} (o : Option (α × Env)) (f : α → Env → Prop) (z : Prop) : Prop := match o with
  | some (a, ρ) => f a ρ
  | none => z
def onE (o : Option Env) (f : Env → Prop) (z : Prop) : Prop := match o with
  | some ρ => f ρ
  | none => z
variable {Q : Out → Prop}
@[simp] theorem onO_some {α : Type} {a : α} {f : α → Env → Prop} {z : Prop} : onO (some (a, ρ)) f z = f a ρ := rfl
@[simp] theorem onE_some {f : Env → Prop} {z : Prop} : onE (some ρ) f z = f ρ := rfl
@[simp] theorem SQ_nx {b : S} : SQ C N b Q (.nx ρ1) = SS C N b ρ1 Q := rfl
@[simp] theorem SQ_rt {b : S} {v : AV} : SQ C N b Q (.rt v ρ1) = Q (.rt v ρ1) := rfl
@[simp] theorem ss_skip : SS C N .skip ρ Q = Q (.nx ρ) := by unfold SS; rw [evS]
@[simp] theorem ss_seq {a b : S} : SS C N (.seq a b) ρ Q = SS C N a ρ (SQ C N b Q) := by
  unfold SQ SS; rw [evS]; cases evS C N a ρ <;> rfl
@[simp] theorem ss_asg {t : Tgt} {e : E} : SS C N (.asg t e) ρ Q = onO (evE C e ρ) (fun v ρ1 => onE (assign t v ρ1) (fun ρ2 => Q (.nx ρ2)) (Q .bad)) (Q .bad) := by
  unfold SS; rw [evS]; cases evE C e ρ with
  | none => rfl
  | some r => obtain ⟨v, ρ1⟩ := r; dsimp only [onO]; cases assign t v ρ1 <;> rfl
@[simp] theorem ss_ret {e : E} : SS C N (.ret e) ρ Q = onO (evE C e ρ) (fun v ρ1 => Q (.rt v ρ1)) (Q .bad) := by
  unfold SS; rw [evS]; cases evE C e ρ with
  | none => rfl
  | some r => rfl
@[simp] theorem ss_exp {e : E} : SS C N (.exp e) ρ Q = onO (evE C e ρ) (fun v ρ1 => Q (.nx ρ1)) (Q .bad) := by
  unfold SS; rw [evS]; cases evE C e ρ with
  | none => rfl
  | some r => rfl
def onB (t : Option Bool) (a b z : Prop) : Prop := match t with
  | some true => a
  | some false => b
  | none => z
@[simp] theorem onB_some {t : Bool} {a b z : Prop} : onB (some t) a b z = if t = true then a else b := by cases t <;> rfl
@[simp] theorem ss_ife {c : E} {a b : S} : SS C N (.ife c a b) ρ Q = onO (evE C c ρ) (fun v ρ1 => onB (truthy v) (SS C N a ρ1 Q) (SS C N b ρ1 Q) (Q .bad)) (Q .bad) := by
  unfold SS; rw [evS]; cases evE C c ρ with
  | none => rfl
  | some r => obtain ⟨v, ρ1⟩ := r; dsimp only [onO, tstO]; cases truthy v with
    | none => rfl
    | some b => cases b <;> rfl
def onV (o : Option Slot) (f : Slot → Prop) (z : Prop) : Prop := match o with
  | some s => f s
  | none => z
@[simp] theorem onV_some {s : Slot} {f : Slot → Prop} {z : Prop} : onV (some s) f z = f s := rfl
@[simp] theorem ss_own {i : Nat} {e : E} : SS C N (.own i e) ρ Q = if e.fresh then onO (evE C e ρ) (fun v ρ1 => onV (ownOf v) (fun s => if i < ρ1.length then Q (.nx (ρ1.set i s)) else Q .bad) (Q .bad)) (Q .bad) else Q .bad := by
  unfold SS; rw [evS]; split
  · cases evE C e ρ with
    | none => rfl
    | some r => obtain ⟨v, ρ1⟩ := r; dsimp only [onO]; cases ownOf v with
      | none => rfl
      | some s => dsimp only [onV]; split <;> rfl
  · rfl
@[simp] theorem ownOf_list {xs : List AV} : ownOf (.list xs) = some (.olst false xs) := rfl
@[simp] theorem ownOf_mkD {t : Nat} {kvs : List (AV × AV)} : ownOf (mkD t kvs) = some (.odct false t kvs) := rfl
@[simp] theorem ss_par {is : List (Nat × Bool)} {as : Es} : SS C N (.par is as) ρ Q = if parOk is as then onO (evEs C false as ρ) (fun vs ρ1 => onE (setPar is vs ρ1) (fun ρ2 => Q (.nx ρ2)) (Q .bad)) (Q .bad) else Q .bad := by
  unfold SS; rw [evS]; split
  · cases evEs C false as ρ with
    | none => rfl
    | some r => obtain ⟨v, ρ1⟩ := r; dsimp only [onO]; cases setPar is v ρ1 <;> rfl
  · rfl
@[simp] theorem sp_nil : setPar [] [] ρ = some ρ := rfl
@[simp] theorem sp_val {i : Nat} {is : List (Nat × Bool)} {v : AV} {vs : List AV} : setPar ((i, false) :: is) (v :: vs) ρ = if i < ρ.length then setPar is vs (ρ.set i (.val v)) else none := rfl
@[simp] theorem sp_own {i : Nat} {is : List (Nat × Bool)} {v : AV} {vs : List AV} : setPar ((i, true) :: is) (v :: vs) ρ = if i < ρ.length then (ownOf v).bind (fun s => setPar is vs (ρ.set i s)) else none := rfl
theorem ss_app {i : Nat} {e : E} {v : AV} {l : Bool} {xs : List AV} (h0 : isOl i ρ = true) (h : evE C e ρ = some (v, ρ1)) (h1 : ρ1[i]? = some (.olst l xs)) (h2 : xs.length < sz) (q : Q (.nx (ρ1.set i (.olst l (xs ++ [v]))))) : SS C N (.app i e) ρ Q := by
  unfold SS; rw [evS, if_pos h0, h]; dsimp only; rw [h1]; dsimp only; rw [if_pos h2]; exact q

/-! ### comprehensions and loops, by plain functions -/
theorem restore_set {old : Env} {i : Nat} {g : Slot} : ∀ {is : List Nat} {ρ : Env}, i ∈ is → restore old is (ρ.set i g) = restore old is ρ
  | [], _, h => by simp at h
  | j :: is, ρ, h => by
    simp only [restore]
    by_cases hj : i ∈ is
    · rw [restore_set hj]
    · have : j = i := by simpa [hj, eq_comm] using h
      subst this
      have : ∀ (is : List Nat) (ρ : Env), (restore old is (ρ.set j g)).set j (old.getD j .none) = (restore old is ρ).set j (old.getD j .none) := by
        intro is
        induction is with
        | nil => intro ρ; simp [restore]
        | cons a r ih =>
          intro ρ
          simp only [restore]
          by_cases ha : a = j
          · subst ha; rw [List.set_set, List.set_set, ih]
          · rw [List.set_comm _ _ ha, ih, List.set_comm _ _ ha]
      exact this is ρ
theorem restore_self {ρ : Env} : ∀ {is : List Nat}, (∀ i ∈ is, i < ρ.length) → restore ρ is ρ = ρ
  | [], _ => rfl
  | i :: is, h => by
    rw [restore, restore_self fun j hj => h j (by simp [hj])]
    have := h i (by simp)
    simp [List.getD, this]
theorem wipe_set {i : Nat} {g : Slot} : ∀ {is : List Nat} {ρ : Env}, i ∈ is → wipeS is (ρ.set i g) = wipeS is ρ
  | [], _, h => by simp at h
  | j :: is, ρ, h => by
    simp only [wipeS]
    by_cases hj : i ∈ is
    · rw [wipe_set hj]
    · have : j = i := by simpa [hj, eq_comm] using h
      subst this
      have : ∀ (is : List Nat) (ρ : Env), (wipeS is (ρ.set j g)).set j .none = (wipeS is ρ).set j .none := by
        intro is
        induction is with
        | nil => intro ρ; simp [wipeS]
        | cons a r ih =>
          intro ρ
          simp only [wipeS]
          by_cases ha : a = j
          · subst ha; rw [List.set_set, List.set_set, ih]
          · rw [List.set_comm _ _ ha, ih, List.set_comm _ _ ha]
      exact this is ρ
/-- two frames that differ at some slots alone -/
def SameBut (is : List Nat) (ρ ρ' : Env) : Prop := wipeS is ρ' = wipeS is ρ ∧ ∀ old, restore old is ρ' = restore old is ρ
theorem sb_wipe : ∀ {is js : List Nat} {ρ : Env}, (∀ i ∈ is, i ∈ js) → SameBut js ρ (wipeS is ρ)
  | [], js, ρ, _ => ⟨rfl, fun _ => rfl⟩
  | i :: is, js, ρ, h => by
    have ih := sb_wipe (is := is) (js := js) (ρ := ρ) fun j hj => h j (by simp [hj])
    have hi := h i (by simp)
    exact ⟨by rw [wipeS, wipe_set hi]; exact ih.1, fun old => by rw [wipeS, restore_set hi]; exact ih.2 old⟩
theorem sb_setAll {js : List Nat} : ∀ {is : List Nat} {vs : List AV} {ρ ρ' : Env}, (∀ i ∈ is, i ∈ js) → setAll is vs ρ = some ρ' → SameBut js ρ ρ'
  | [], [], ρ, ρ', _, h => by cases h; exact ⟨rfl, fun _ => rfl⟩
  | [], _ :: _, ρ, ρ', _, h => by cases h
  | _ :: _, [], ρ, ρ', _, h => by cases h
  | i :: is, v :: vs, ρ, ρ', hi, h => by
    rw [setAll] at h
    split at h
    · have ih := sb_setAll (js := js) (fun j hj => hi j (by simp [hj])) h
      have h0 := hi i (by simp)
      exact ⟨ih.1.trans (wipe_set h0), fun old => (ih.2 old).trans (restore_set h0)⟩
    · cases h
theorem sb_assign {t : Tgt} {v : AV} {ρ ρ' : Env} (h : assign t v ρ = some ρ') : SameBut t.slots ρ ρ' := by
  cases t with
  | nm i =>
    rw [as_nm] at h
    split at h
    · cases h; exact ⟨wipe_set (by simp), fun old => restore_set (by simp)⟩
    · cases h
  | tp is =>
    cases v with
    | tuple vs => exact sb_setAll (fun i hi => hi) h
    | _ => cases h
theorem ev_comp {α : Type} {k : SrcK} {as : Es} {t : Tgt} {cs : Es} {elt : E} (vs : List AV) (xs : List α) (e : α → AV) (p : α → Bool) (f : α → AV) (h1 : evEs C false as ρ = some (vs, ρ1)) (h2 : srcS k vs = some (xs.map e))
    (hw : t.slots.all (fun i => wipeable i ρ1) = true) (hl : xs.length ≤ sz)
    (hx : ∀ x ∈ xs, ∃ ρx, assign t (e x) (wipeS t.slots ρ1) = some ρx ∧ evCs C cs ρx = some (p x, ρx) ∧ (p x = true → evE C elt ρx = some (f x, ρx))) :
    evE C (.comp k as t cs elt) ρ = some (.list ((xs.filter p).map f), ρ1) := by
  rw [evE, h1]
  dsimp only
  rw [h2]
  dsimp only
  rw [if_pos (by simp only [List.length_map, Bool.and_eq_true, decide_eq_true_eq]; exact ⟨hw, hl⟩)]
  have hlen : ∀ i ∈ t.slots, i < ρ1.length := by
    intro i hi
    have := List.all_eq_true.mp hw i hi
    unfold wipeable at this
    by_cases h : i < ρ1.length
    · exact h
    · rw [List.getElem?_eq_none (by omega)] at this; cases this
  have key : ∀ (l : List α) (acc : List AV) (ρ' : Env), (∀ x ∈ l, x ∈ xs) → SameBut t.slots ρ1 ρ' → ∃ ρ'', evLoop (fun x ρ => assign t x (wipeS t.slots ρ)) (fun ρ => evCs C cs ρ) (fun ρ => evE C elt ρ) (l.map e) acc ρ' = some (acc ++ (l.filter p).map f, ρ'') ∧ SameBut t.slots ρ1 ρ'' := by
    intro l
    induction l with
    | nil => intro acc ρ' _ hb; exact ⟨ρ', by simp [evLoop], hb⟩
    | cons x l ih =>
      intro acc ρ' hm hb
      obtain ⟨ρx, a1, a2, a3⟩ := hx x (hm x (by simp))
      have hb2 : SameBut t.slots ρ1 ρx := by
        have b1 := sb_wipe (is := t.slots) (js := t.slots) (ρ := ρ1) fun i hi => hi
        have b2 := sb_assign a1
        exact ⟨b2.1.trans b1.1, fun old => (b2.2 old).trans (b1.2 old)⟩
      rw [List.map_cons, evLoop, hb.1, a1]
      dsimp only
      rw [a2]
      cases hp : p x with
      | true =>
        dsimp only
        rw [a3 hp]
        dsimp only
        obtain ⟨ρ'', c1, c2⟩ := ih (acc ++ [f x]) ρx (fun y hy => hm y (by simp [hy])) hb2
        refine ⟨ρ'', ?_, c2⟩
        rw [c1]
        simp [hp]
      | false =>
        dsimp only
        obtain ⟨ρ'', c1, c2⟩ := ih acc ρx (fun y hy => hm y (by simp [hy])) hb2
        refine ⟨ρ'', ?_, c2⟩
        rw [c1]
        simp [hp]
  obtain ⟨ρ'', c1, c2⟩ := key xs [] ρ1 (fun x hx => hx) ⟨rfl, fun _ => rfl⟩
  rw [c1]
  simp only [List.nil_append, Option.some.injEq, Prod.mk.injEq, true_and]
  rw [c2.2 ρ1]
  exact restore_self hlen
theorem ss_for {α σ : Type} {k : SrcK} {as : Es} {t : Tgt} {b : S} (vs : List AV) (xs : List α) (e : α → AV) (I : σ → Env → Prop) (step : σ → α → σ) (s0 : σ) (ρ1 : Env) (h1 : evEs C false as ρ = some (vs, ρ1)) (h2 : srcS k vs = some (xs.map e))
    (h0 : I s0 ρ1) (hx : ∀ s ρ x, x ∈ xs → I s ρ → onE (assign t (e x) ρ) (fun ρ2 => SS C N b ρ2 fun o => match o with
      | .nx ρ3 => I (step s x) ρ3
      | .ct ρ3 => I (step s x) ρ3
      | _ => False) False) (q : ∀ ρ', I (xs.foldl step s0) ρ' → Q (.nx ρ')) : SS C N (.for_ k as t b) ρ Q := by
  unfold SS
  rw [evS, h1]
  dsimp only
  rw [h2]
  dsimp only
  have key : ∀ (l : List α) (s : σ) (ρ : Env), (∀ x ∈ l, x ∈ xs) → I s ρ → ∃ ρ', evFor (assign t) (fun ρ => evS C N b ρ) (l.map e) ρ = .nx ρ' ∧ I (l.foldl step s) ρ' := by
    intro l
    induction l with
    | nil => intro s ρ _ hs; exact ⟨ρ, rfl, hs⟩
    | cons x l ih =>
      intro s ρ hm hs
      have := hx s ρ x (hm x (by simp)) hs
      rw [List.map_cons, evFor]
      cases ha : assign t (e x) ρ with
      | none => rw [ha] at this; cases this
      | some ρ2 =>
        rw [ha] at this
        dsimp only [onE] at this ⊢
        rw [ss_def] at this
        cases ho : evS C N b ρ2 with
        | nx ρ3 => rw [ho] at this; exact ih _ _ (fun y hy => hm y (by simp [hy])) this
        | ct ρ3 => rw [ho] at this; exact ih _ _ (fun y hy => hm y (by simp [hy])) this
        | bk ρ3 => rw [ho] at this; cases this
        | rt v ρ3 => rw [ho] at this; cases this
        | bad => rw [ho] at this; cases this
  obtain ⟨ρ', c1, c2⟩ := key xs s0 ρ1 (fun x hx => hx) h0
  rw [c1]
  exact q ρ' c2
theorem ss_for0 {α σ : Type} {k : SrcK} {as : Es} {t : Tgt} {b : S} (vs : List AV) (xs : List α) (e : α → AV) (I : σ → Env → Prop) (step : σ → α → σ) (s0 : σ) (h1 : evEs C false as ρ = some (vs, ρ)) (h2 : srcS k vs = some (xs.map e))
    (h0 : I s0 ρ) (hx : ∀ s ρ x, x ∈ xs → I s ρ → onE (assign t (e x) ρ) (fun ρ2 => SS C N b ρ2 fun o => match o with
      | .nx ρ3 => I (step s x) ρ3
      | .ct ρ3 => I (step s x) ρ3
      | _ => False) False) (q : ∀ ρ', I (xs.foldl step s0) ρ' → Q (.nx ρ')) : SS C N (.for_ k as t b) ρ Q := ss_for vs xs e I step s0 ρ h1 h2 h0 hx q
/-- a loop, by what it has walked -/
theorem ss_forP {α : Type} {k : SrcK} {as : Es} {t : Tgt} {b : S} (vs : List AV) (xs : List α) (e : α → AV) (I : List α → Env → Prop) (h1 : evEs C false as ρ = some (vs, ρ)) (h2 : srcS k vs = some (xs.map e))
    (h0 : I [] ρ) (hx : ∀ done x rest ρ, xs = done ++ x :: rest → I done ρ → onE (assign t (e x) ρ) (fun ρ2 => SS C N b ρ2 fun o => match o with
      | .nx ρ3 => I (done ++ [x]) ρ3
      | .ct ρ3 => I (done ++ [x]) ρ3
      | _ => False) False) (q : ∀ ρ', I xs ρ' → Q (.nx ρ')) : SS C N (.for_ k as t b) ρ Q := by
  rw [ss_def, evS, h1]
  dsimp only
  rw [h2]
  dsimp only
  have key : ∀ (l done : List α) (ρ : Env), xs = done ++ l → I done ρ → ∃ ρ', evFor (assign t) (fun ρ => evS C N b ρ) (l.map e) ρ = .nx ρ' ∧ I xs ρ' := by
    intro l
    induction l with
    | nil => intro done ρ hd hs; exact ⟨ρ, rfl, by rw [hd, List.append_nil]; exact hs⟩
    | cons x l ih =>
      intro done ρ hd hs
      have := hx done x l ρ hd hs
      rw [List.map_cons, evFor]
      cases ha : assign t (e x) ρ with
      | none => rw [ha] at this; cases this
      | some ρ2 =>
        rw [ha] at this
        dsimp only [onE] at this ⊢
        rw [ss_def] at this
        cases ho : evS C N b ρ2 with
        | nx ρ3 => rw [ho] at this; exact ih _ _ (by rw [hd]; simp) this
        | ct ρ3 => rw [ho] at this; exact ih _ _ (by rw [hd]; simp) this
        | bk ρ3 => rw [ho] at this; cases this
        | rt v ρ3 => rw [ho] at this; cases this
        | bad => rw [ho] at this; cases this
  obtain ⟨ρ', c1, c2⟩ := key xs [] ρ rfl h0
  rw [c1]
  exact q ρ' c2
theorem ss_while {c : E} {b : S} (I : Nat → Env → Prop) (m : Nat) (hm : m < N) (h0 : I m ρ) (hx : ∀ n ρ, n ≤ m → I n ρ → onO (evE C c ρ) (fun v ρ1 => onB (truthy v) (SS C N b ρ1 fun o => match o with
      | .nx ρ3 => ∃ n', n' < n ∧ I n' ρ3
      | _ => False) (Q (.nx ρ1)) False) False) : SS C N (.whl c b) ρ Q := by
  unfold SS
  rw [evS]
  have key : ∀ (k n : Nat) (ρ : Env), n ≤ m → n < k → I n ρ → Q (evWhile (fun ρ => tstO (evE C c ρ)) (fun ρ => evS C N b ρ) k ρ) := by
    intro k
    induction k with
    | zero => intro n ρ _ h _; omega
    | succ k ih =>
      intro n ρ hn hk hI
      have := hx n ρ hn hI
      rw [evWhile]
      cases he : evE C c ρ with
      | none => rw [he] at this; cases this
      | some r =>
        obtain ⟨v, ρ1⟩ := r
        rw [he] at this
        dsimp only [onO, tstO] at this ⊢
        cases ht : truthy v with
        | none => rw [ht] at this; cases this
        | some t =>
          rw [ht] at this
          cases t with
          | false => exact this
          | true =>
            dsimp only [onB] at this ⊢
            rw [ss_def] at this
            cases ho : evS C N b ρ1 with
            | nx ρ3 =>
              rw [ho] at this
              obtain ⟨n', h1, h2⟩ := this
              exact ih n' ρ3 (by omega) (by omega) h2
            | _ => rw [ho] at this; cases this
  exact key N m ρ (Nat.le_refl _) hm h0
end
/-! ### calls -/
theorem ev_call {P : List Fn} {N k j : Nat} {args : List Slot} {d : Fn} {r : AV × List Slot} (hd : P[j]? = some d) (h : decide (args.length = d.ar ∧ d.ar ≤ d.ns ∧ lentOk d 0 args = true) = true) (q : SS (evF P N k) N d.body (args ++ List.replicate (d.ns - d.ar) .none) fun o => evEnd args o = some r) : evF P N (k + 1) j args = some r := by
  rw [evF]
  dsimp only
  rw [hd]
  dsimp only
  rw [if_pos (of_decide_eq_true h)]
  rw [ss_def] at q
  exact q
@[simp] theorem evEnd_rt {args : List Slot} {v : AV} {ρ : Env} : evEnd args (.rt v ρ) = (outs args ρ).map fun os => (v, os) := by unfold evEnd; dsimp only; cases outs args ρ <;> rfl
@[simp] theorem evEnd_nx {args : List Slot} {ρ : Env} : evEnd args (.nx ρ) = (outs args ρ).map fun os => (.none, os) := by unfold evEnd; dsimp only; cases outs args ρ <;> rfl
@[simp] theorem outs_nil {ρ : Env} : outs [] ρ = some [] := rfl
@[simp] theorem outs_val {v : AV} {ss : List Slot} {s : Slot} {ρ : Env} : outs (.val v :: ss) (s :: ρ) = (outs ss ρ).map (Slot.val v :: ·) := rfl
@[simp] theorem lentOk_nil {d : Fn} {n : Nat} : lentOk d n [] = true := rfl
@[simp] theorem lentOk_val {d : Fn} {n : Nat} {v : AV} {r : List Slot} : lentOk d n (.val v :: r) = lentOk d (n + 1) r := rfl
end G
namespace G
open PySem
/-! ### rules for the primitives -/
section
variable {i j : Int} {a b : AV} {xs ys : List AV}
@[simp] theorem q_add : primS .add [.int i, .int j] = some (.int (i + j)) := rfl
@[simp] theorem q_sub : primS .sub [.int i, .int j] = some (.int (i - j)) := rfl
@[simp] theorem q_neg : primS .neg [.int i] = some (.int (-i)) := rfl
@[simp] theorem q_xor : primS .xor [.int i, .int j] = some (.int (Builtin.bitXor i j)) := rfl
@[simp] theorem q_lt : primS .lt [.int i, .int j] = some (.bool (decide (i < j))) := rfl
@[simp] theorem q_le : primS .le [.int i, .int j] = some (.bool (decide (i ≤ j))) := rfl
@[simp] theorem q_gt : primS .gt [.int i, .int j] = some (.bool (decide (j < i))) := rfl
@[simp] theorem q_ge : primS .ge [.int i, .int j] = some (.bool (decide (j ≤ i))) := rfl
@[simp] theorem q_eqI : primS .eq [.int i, .int j] = some (.bool (i == j)) := rfl
@[simp] theorem q_neI : primS .ne [.int i, .int j] = some (.bool (!(i == j))) := rfl
@[simp] theorem q_isN : primS .isN [a] = some (.bool (isNonS a)) := rfl
@[simp] theorem q_notN : primS .notN [a] = some (.bool !isNonS a) := rfl
@[simp] theorem nonS_none : isNonS .none = true := rfl
@[simp] theorem nonS_int : isNonS (.int i) = false := rfl
@[simp] theorem nonS_bool {b : Bool} : isNonS (.bool b) = false := rfl
@[simp] theorem nonS_tuple : isNonS (.tuple xs) = false := rfl
@[simp] theorem nonS_list : isNonS (.list xs) = false := rfl
@[simp] theorem nonS_str {s : Str} : isNonS (.str s) = false := rfl
@[simp] theorem q_isB {b c : Bool} : primS (.isB b) [.bool c] = some (.bool (decide (c = b))) := rfl
@[simp] theorem q_lenL : primS .len [.list xs] = some (.int xs.length) := rfl
@[simp] theorem q_lenT : primS .len [.tuple xs] = some (.int xs.length) := rfl
@[simp] theorem q_abs : primS .abs [.int i] = some (.int (if i < 0 then -i else i)) := rfl
@[simp] theorem q_max2 : primS .max2 [.int i, .int j] = some (.int (if j > i then j else i)) := rfl
@[simp] theorem q_min2 : primS .min2 [.int i, .int j] = some (.int (if j < i then j else i)) := rfl
@[simp] theorem q_int1 : primS .int1 [.int i] = some (.int i) := rfl
@[simp] theorem q_tupL : primS .tupOf [.list xs] = some (.tuple xs) := rfl
@[simp] theorem q_tupT : primS .tupOf [.tuple xs] = some (.tuple xs) := rfl
@[simp] theorem q_lstL : primS .lstOf [.list xs] = some (.list xs) := rfl
@[simp] theorem q_lstT : primS .lstOf [.tuple xs] = some (.list xs) := rfl
@[simp] theorem q_isi {t : Ty} : primS (.isi t) [a] = some (.bool (isTy t a)) := rfl
@[simp] theorem ty_ii : isTy .int (.int i) = true := rfl
@[simp] theorem ty_bi : isTy .bool (.int i) = false := rfl
@[simp] theorem ty_si : isTy .str (.int i) = false := rfl
@[simp] theorem ty_ti : isTy .tuple (.int i) = false := rfl
@[simp] theorem ty_li : isTy .list (.int i) = false := rfl
@[simp] theorem ty_tt : isTy .tuple (.tuple xs) = true := rfl
@[simp] theorem ty_it : isTy .int (.tuple xs) = false := rfl
@[simp] theorem ty_bt : isTy .bool (.tuple xs) = false := rfl
@[simp] theorem ty_st : isTy .str (.tuple xs) = false := rfl
@[simp] theorem ty_lt : isTy .list (.tuple xs) = false := rfl
@[simp] theorem ty_tl : isTy .tuple (.list xs) = false := rfl
@[simp] theorem ty_il : isTy .int (.list xs) = false := rfl
@[simp] theorem ty_bl : isTy .bool (.list xs) = false := rfl
@[simp] theorem ty_sl : isTy .str (.list xs) = false := rfl
@[simp] theorem ty_ll : isTy .list (.list xs) = true := rfl
@[simp] theorem ty_bb {b : Bool} : isTy .bool (.bool b) = true := rfl
@[simp] theorem ty_ib {b : Bool} : isTy .int (.bool b) = true := rfl
@[simp] theorem ty_sb {b : Bool} : isTy .str (.bool b) = false := rfl
@[simp] theorem ty_tb {b : Bool} : isTy .tuple (.bool b) = false := rfl
@[simp] theorem ty_lb {b : Bool} : isTy .list (.bool b) = false := rfl
@[simp] theorem ty_ss {s : Str} : isTy .str (.str s) = true := rfl
@[simp] theorem ty_is {s : Str} : isTy .int (.str s) = false := rfl
@[simp] theorem ty_bs {s : Str} : isTy .bool (.str s) = false := rfl
@[simp] theorem ty_ts {s : Str} : isTy .tuple (.str s) = false := rfl
@[simp] theorem ty_ls {s : Str} : isTy .list (.str s) = false := rfl
@[simp] theorem ty_in : isTy .int .none = false := rfl
@[simp] theorem ty_bn : isTy .bool .none = false := rfl
@[simp] theorem ty_sn : isTy .str .none = false := rfl
@[simp] theorem ty_tn : isTy .tuple .none = false := rfl
@[simp] theorem ty_ln : isTy .list .none = false := rfl
theorem q_mkTup : primS .mkTup xs = (fit xs).map .tuple := rfl
theorem fit_small (h : xs.length ≤ sz) : fit xs = some xs := by unfold fit; rw [if_pos h]
@[simp] theorem fit_0 : fit [] = some [] := fit_small (by simp [sz])
@[simp] theorem fit_1 {a : AV} : fit [a] = some [a] := fit_small (by simp [sz])
@[simp] theorem fit_2 {a b : AV} : fit [a, b] = some [a, b] := fit_small (by simp [sz])
@[simp] theorem fit_3 {a b c : AV} : fit [a, b, c] = some [a, b, c] := fit_small (by simp [sz])
@[simp] theorem q_tup0 : primS .mkTup [] = some (.tuple []) := by rw [q_mkTup, fit_0]; rfl
@[simp] theorem q_tup1 : primS .mkTup [a] = some (.tuple [a]) := by rw [q_mkTup, fit_1]; rfl
@[simp] theorem q_tup2 : primS .mkTup [a, b] = some (.tuple [a, b]) := by rw [q_mkTup, fit_2]; rfl
@[simp] theorem q_tup3 {c : AV} : primS .mkTup [a, b, c] = some (.tuple [a, b, c]) := by rw [q_mkTup, fit_3]; rfl
theorem q_addL (h : (xs ++ ys).length ≤ sz) : primS .add [.list xs, .list ys] = some (.list (xs ++ ys)) := by
  show (fit (xs ++ ys)).map _ = _; rw [fit_small h]; rfl
theorem q_addT (h : (xs ++ ys).length ≤ sz) : primS .add [.tuple xs, .tuple ys] = some (.tuple (xs ++ ys)) := by
  show (fit (xs ++ ys)).map _ = _; rw [fit_small h]; rfl
theorem q_mulN {i j : Int} (h : mulOk i j = true) : primS .mul [.int i, .int j] = some (.int (i * j)) := by
  show (if mulOk i j then _ else _) = _; rw [if_pos h]
theorem q_mod (h : 0 < j) : primS .mod [.int i, .int j] = some (.int (i % j)) := by
  show (if decide (0 < j) = true then _ else _) = _; rw [if_pos (by simpa using h)]
theorem divOk_small (h : 0 < j) (h2 : j < 2 ^ 64) : divOk j = true := by
  unfold divOk
  simp only [Bool.and_eq_true, decide_eq_true_eq]
  refine ⟨h, ?_⟩
  have : j.natAbs.log2 ≤ 64 := by
    have h3 : j.natAbs < 2 ^ 64 := by omega
    exact Nat.le_of_lt ((Nat.log2_lt (by omega)).mpr h3)
  omega
theorem q_fdiv (h : divOk j = true) : primS .fdiv [.int i, .int j] = some (.int (i / j)) := by
  show (if divOk j = true then _ else _) = _; rw [if_pos h]
@[simp] theorem q_mod2 : primS .mod [.int i, .int 2] = some (.int (i % 2)) := q_mod (by decide)
@[simp] theorem q_div2 : primS .fdiv [.int i, .int 2] = some (.int (i / 2)) := q_fdiv (by decide +kernel)
theorem atL_nat {n : Nat} {v : AV} (h : xs[n]? = some v) : atL xs (n : Int) = some v := by
  have hn : n < xs.length := (List.getElem?_eq_some_iff.mp h).1
  unfold atL L2.atI L2.ixN; rw [if_pos (by omega), if_pos (by omega)]; simpa using h
theorem atL_get {n : Nat} (h : n < xs.length) : atL xs (n : Int) = some xs[n] := atL_nat (List.getElem?_eq_getElem h)
@[simp] theorem q_ixL : primS .ix [.list xs, .int i] = atL xs i := rfl
@[simp] theorem q_ixT : primS .ix [.tuple xs, .int i] = atL xs i := rfl
@[simp] theorem atL_0 {r : List AV} : atL (a :: r) 0 = some a := atL_nat (n := 0) rfl
@[simp] theorem atL_1 {r : List AV} : atL (a :: b :: r) 1 = some b := atL_nat (n := 1) rfl
theorem boolsL_map : ∀ {bs : List Bool}, boolsL (bs.map .bool) = some bs
  | [] => rfl
  | b :: bs => by simp [boolsL, boolsL_map]
theorem boolsL_map' {α : Type} {l : List α} {p : α → Bool} : boolsL (l.map fun x => .bool (p x)) = some (l.map p) := by
  have := @boolsL_map (l.map p); rwa [List.map_map] at this
theorem intsL_map : ∀ {bs : List Int}, intsL (bs.map .int) = some bs
  | [] => rfl
  | b :: bs => by simp [intsL, intsL_map]
theorem intsL_map' {α : Type} {l : List α} {p : α → Int} : intsL (l.map fun x => .int (p x)) = some (l.map p) := by
  have := @intsL_map (l.map p); rwa [List.map_map] at this
@[simp] theorem q_all {α : Type} {l : List α} {p : α → Bool} : primS .all [.list (l.map fun x => .bool (p x))] = some (.bool (l.all p)) := by
  show (boolsL _).map _ = _; rw [boolsL_map']; simp
@[simp] theorem q_any {α : Type} {l : List α} {p : α → Bool} : primS .any [.list (l.map fun x => .bool (p x))] = some (.bool (l.any p)) := by
  show (boolsL _).map _ = _; rw [boolsL_map']; simp
@[simp] theorem sq_seqL : srcS .seq [.list xs] = some xs := rfl
@[simp] theorem sq_seqT : srcS .seq [.tuple xs] = some xs := rfl
theorem sq_rng1 {n : Nat} (h : n ≤ 2 ^ 61) : srcS .rng1 [.int n] = some ((List.range n).map fun m => .int (m : Int)) := by
  have : small62 (n : Int) = true := by unfold small62; rw [Bool.and_eq_true, decide_eq_true_eq, decide_eq_true_eq]; omega
  show range1 [.int (n : Int)] = _
  rw [range1, if_pos this]; unfold rangeList; simp
theorem sq_enumL : srcS .enum [.list xs] = some (xs.zipIdx.map fun p => .tuple [.int p.2, p.1]) := rfl
theorem sq_enumT : srcS .enum [.tuple xs] = some (xs.zipIdx.map fun p => .tuple [.int p.2, p.1]) := rfl
theorem sq_zip {a b : AV} (h1 : items? a = some xs) (h2 : items? b = some ys) : srcS .zip [a, b] = some ((xs.zip ys).map fun p => .tuple [p.1, p.2]) := by
  show ((items? a).bind _) = _; rw [h1]; simp [h2]
/-- a comprehension without a test; the frame is not changed by what it walks -/
theorem ev_map {C : DH} {ρ : Env} {α : Type} {k : SrcK} {as : Es} {t : Tgt} {elt : E} (vs : List AV) (xs : List α) (e : α → AV) (f : α → AV) (h1 : evEs C false as ρ = some (vs, ρ)) (h2 : srcS k vs = some (xs.map e))
    (hw : t.slots.all (fun i => wipeable i ρ) = true) (hl : xs.length ≤ sz)
    (hx : ∀ x ∈ xs, ∃ ρx, assign t (e x) (wipeS t.slots ρ) = some ρx ∧ evE C elt ρx = some (f x, ρx)) :
    evE C (.comp k as t .nil elt) ρ = some (.list (xs.map f), ρ) := by
  rw [ev_comp vs xs e (fun _ => true) f h1 h2 hw hl fun x hx' => by
    obtain ⟨ρx, a, b⟩ := hx x hx'
    exact ⟨ρx, a, e_true, fun _ => b⟩]
  rw [List.filter_eq_self.mpr (fun _ _ => rfl)]
theorem ev_filt {C : DH} {ρ : Env} {α : Type} {k : SrcK} {as : Es} {t : Tgt} {cs : Es} {elt : E} (vs : List AV) (xs : List α) (e : α → AV) (p : α → Bool) (f : α → AV) (h1 : evEs C false as ρ = some (vs, ρ)) (h2 : srcS k vs = some (xs.map e))
    (hw : t.slots.all (fun i => wipeable i ρ) = true) (hl : xs.length ≤ sz)
    (hx : ∀ x ∈ xs, ∃ ρx, assign t (e x) (wipeS t.slots ρ) = some ρx ∧ evCs C cs ρx = some (p x, ρx) ∧ (p x = true → evE C elt ρx = some (f x, ρx))) :
    evE C (.comp k as t cs elt) ρ = some (.list ((xs.filter p).map f), ρ) := ev_comp vs xs e p f h1 h2 hw hl hx
theorem flat_rep {a : AV} : ∀ {n : Nat}, (List.replicate n [a]).flatten = List.replicate n a
  | 0 => rfl
  | n + 1 => by rw [List.replicate_succ, List.flatten_cons, flat_rep, List.replicate_succ]; rfl
theorem q_mulL1 {a : AV} {n : Nat} (h : n ≤ sz) : primS .mul [.list [a], .int (n : Int)] = some (.list (List.replicate n a)) := by
  show mulS (.list [a]) (.int (n : Int)) = _
  have h1 : small62 (n : Int) = true := by unfold small62; rw [Bool.and_eq_true, decide_eq_true_eq, decide_eq_true_eq]; unfold sz at h; omega
  have h2 : decide ([a].length * (n : Int).toNat ≤ sz) = true := by rw [decide_eq_true_eq, Int.toNat_natCast, List.length_singleton, Nat.one_mul]; exact h
  unfold mulS
  dsimp only
  rw [h1, h2]
  simp only [Bool.and_self, if_true, Int.toNat_natCast]
  rw [flat_rep]
theorem exS {d k : Nat} (h : d + 1 ≤ k) : ∃ k', k = k' + 1 ∧ d ≤ k' := ⟨k - 1, by omega, by omega⟩
@[simp] theorem sl_tfT {n : Nat} : primS (.slice true false) [.tuple xs, .int (n : Int)] = some (.tuple (xs.drop n)) := by
  rw [primS]
  unfold cutS cut
  simp only [HT.sIx_none, HT.sIx_nat]
  congr 2
  rw [List.take_of_length_le (by simp)]
  by_cases h : n ≤ xs.length
  · rw [Nat.min_eq_left h]
  · rw [Nat.min_eq_right (by omega), List.drop_of_length_le (by omega), List.drop_of_length_le (by omega)]
end
section
variable {C : DH} {N : Nat} {ρ : Env} {Q : Out → Prop}
def putK (fr : Bool) (i : Nat) (k v : AV) (ρ : Env) : Option Env := match ρ[i]?, k with
  | some (.olst l xs), .int j => (L2.ixN xs.length j).map fun n => ρ.set i (.olst l (xs.set n v))
  | some (.odct l t kvs), k => if keyOk t k && (t == 0 || fr) && decide (kvs.length < sz) then some (ρ.set i (.odct l t (putD k v kvs))) else none
  | _, _ => none
@[simp] theorem ss_put {i : Nat} {ke e : E} : SS C N (.put i ke e) ρ Q = if (peek i ρ).isSome then onO (evE C e ρ) (fun v ρ1 => onO (evE C ke ρ1) (fun k ρ2 => onE (putK ke.fresh i k v ρ2) (fun ρ3 => Q (.nx ρ3)) (Q .bad)) (Q .bad)) (Q .bad) else Q .bad := by
  unfold SS; rw [evS]; split
  · cases evE C e ρ with
    | none => rfl
    | some r =>
      obtain ⟨v, ρ1⟩ := r; dsimp only [onO]; cases evE C ke ρ1 with
      | none => rfl
      | some r =>
        obtain ⟨k, ρ2⟩ := r; dsimp only; unfold putK; cases e1 : ρ2[i]? with
        | none => rfl
        | some t => cases t with
          | olst l xs => cases k with
            | int j => dsimp only; cases L2.ixN xs.length j <;> rfl
            | _ => rfl
          | odct l t kvs => dsimp only; split <;> rfl
          | _ => rfl
  · rfl
@[simp] theorem putK_l {fr l : Bool} {j : Nat} {v : AV} {xs : List AV} {r : Env} (h : j < xs.length) : putK fr 0 (.int (j : Int)) v (.olst l xs :: r) = some (.olst l (xs.set j v) :: r) := by
  unfold putK; dsimp only [List.getElem?_cons_zero]
  unfold L2.ixN; rw [if_pos (by omega), if_pos (by omega)]; simp
@[simp] theorem putK_s {fr : Bool} {i : Nat} {k v : AV} {s : Slot} {r : Env} : putK fr (i + 1) k v (s :: r) = (putK fr i k v r).map (s :: ·) := by
  unfold putK; simp only [List.getElem?_cons_succ]; cases e1 : r[i]? with
  | none => rfl
  | some t => cases t with
    | olst l xs => cases k with
      | int j => dsimp only; cases L2.ixN xs.length j <;> rfl
      | _ => rfl
    | odct l t kvs => dsimp only; split <;> rfl
    | _ => rfl
def appK (i : Nat) (v : AV) (ρ : Env) : Option Env := match ρ[i]? with
  | some (.olst l xs) => if xs.length < sz then some (ρ.set i (.olst l (xs ++ [v]))) else none
  | _ => none
@[simp] theorem ss_appK {i : Nat} {e : E} : SS C N (.app i e) ρ Q = if isOl i ρ then onO (evE C e ρ) (fun v ρ1 => onE (appK i v ρ1) (fun ρ2 => Q (.nx ρ2)) (Q .bad)) (Q .bad) else Q .bad := by
  unfold SS; rw [evS]; split
  · cases evE C e ρ with
    | none => rfl
    | some r =>
      obtain ⟨v, ρ1⟩ := r; dsimp only [onO]; unfold appK; cases e1 : ρ1[i]? with
      | none => rfl
      | some t => cases t with
        | olst l xs => dsimp only; split <;> rfl
        | _ => rfl
  · rfl
@[simp] theorem appK_0 {l : Bool} {v : AV} {xs : List AV} {r : Env} (h : xs.length < sz) : appK 0 v (.olst l xs :: r) = some (.olst l (xs ++ [v]) :: r) := by
  unfold appK; simp [h]
@[simp] theorem appK_s {i : Nat} {v : AV} {s : Slot} {r : Env} : appK (i + 1) v (s :: r) = (appK i v r).map (s :: ·) := by
  unfold appK; simp only [List.getElem?_cons_succ]; cases e1 : r[i]? with
  | none => rfl
  | some t => cases t with
    | olst l xs => dsimp only; split <;> rfl
    | _ => rfl
end
end G
namespace G
open PySem
/-! ### equality and order by plain values -/
/-- data that can be compared -/
def Sh (n : Nat) (v : AV) : Prop := v.canLay0 = true ∧ v.depth ≤ n
theorem canAll_iff : ∀ {xs : List AV}, PyData.canLayAll0 xs = true ↔ ∀ x ∈ xs, x.canLay0 = true
  | [] => by simp [PyData.canLayAll0]
  | x :: xs => by simp [PyData.canLayAll0, canAll_iff]
theorem depAll_iff {n : Nat} : ∀ {xs : List AV}, PyData.depthAll xs ≤ n ↔ ∀ x ∈ xs, x.depth ≤ n
  | [] => by simp [PyData.depthAll]
  | x :: xs => by simp only [PyData.depthAll, List.mem_cons, forall_eq_or_imp, ← depAll_iff (xs := xs)]; omega
@[simp] theorem sh_int {n : Nat} {i : Int} : Sh n (.int i) := ⟨by simp [PyData.canLay0], by simp [PyData.depth]⟩
@[simp] theorem sh_bool {n : Nat} {i : Bool} : Sh n (.bool i) := ⟨by simp [PyData.canLay0], by simp [PyData.depth]⟩
@[simp] theorem sh_none {n : Nat} : Sh n .none := ⟨by simp [PyData.canLay0], by simp [PyData.depth]⟩
@[simp] theorem sh_list {n : Nat} {xs : List AV} : Sh (n + 1) (.list xs) ↔ ∀ x ∈ xs, Sh n x := by
  unfold Sh
  simp only [PyData.canLay0, PyData.depth, canAll_iff, Nat.add_le_add_iff_right, depAll_iff]
  exact ⟨fun h x hx => ⟨h.1 x hx, h.2 x hx⟩, fun h => ⟨fun x hx => (h x hx).1, fun x hx => (h x hx).2⟩⟩
@[simp] theorem sh_tuple {n : Nat} {xs : List AV} : Sh (n + 1) (.tuple xs) ↔ ∀ x ∈ xs, Sh n x := by
  unfold Sh
  simp only [PyData.canLay0, PyData.depth, canAll_iff, Nat.add_le_add_iff_right, depAll_iff]
  exact ⟨fun h x hx => ⟨h.1 x hx, h.2 x hx⟩, fun h => ⟨fun x hx => (h x hx).1, fun x hx => (h x hx).2⟩⟩
theorem Sh.mono {m n : Nat} {v : AV} (h : Sh m v) (hm : m ≤ n) : Sh n v := ⟨h.1, Nat.le_trans h.2 hm⟩
theorem Sh.shaped {n : Nat} {v : AV} (h : Sh n v) (hn : n ≤ 64) : SeqAt.shaped v = true := by
  unfold SeqAt.shaped; rw [h.1]; simp; exact Nat.le_trans h.2 hn
@[simp] theorem eqv_ii {i j : Int} : PyData.eqv (.int i) (.int j) = (i == j) := by simp [PyData.eqv]
@[simp] theorem eqv_nn : PyData.eqv .none .none = true := by simp [PyData.eqv]
@[simp] theorem eqv_in {i : Int} : PyData.eqv (.int i) .none = false := by simp [PyData.eqv]
@[simp] theorem eqv_ni {i : Int} : PyData.eqv .none (.int i) = false := by simp [PyData.eqv]
@[simp] theorem eqv_tt {xs ys : List AV} : PyData.eqv (.tuple xs) (.tuple ys) = PyData.eqvAll xs ys := by simp [PyData.eqv]
@[simp] theorem eqv_ll {xs ys : List AV} : PyData.eqv (.list xs) (.list ys) = PyData.eqvAll xs ys := by simp [PyData.eqv]
@[simp] theorem eqv_ss {x y : Str} : PyData.eqv (.str x) (.str y) = (x == y) := by simp [PyData.eqv]
@[simp] theorem eqv_bb {x y : Bool} : PyData.eqv (.bool x) (.bool y) = (x == y) := by simp [PyData.eqv]
@[simp] theorem eqvAll_nil : PyData.eqvAll [] [] = true := by simp [PyData.eqvAll]
@[simp] theorem eqvAll_cons {x y : AV} {xs ys : List AV} : PyData.eqvAll (x :: xs) (y :: ys) = (PyData.eqv x y && PyData.eqvAll xs ys) := by simp [PyData.eqvAll]
@[simp] theorem eqvAll_cn {x : AV} {xs : List AV} : PyData.eqvAll (x :: xs) [] = false := by simp [PyData.eqvAll]
@[simp] theorem eqvAll_nc {x : AV} {xs : List AV} : PyData.eqvAll [] (x :: xs) = false := by simp [PyData.eqvAll]
/-- plain values as data -/
structure EncOk {α : Type} [BEq α] (e : α → AV) : Prop where
  sh : ∀ x, Sh 20 (e x)
  eq : ∀ x y, PyData.eqv (e x) (e y) = (x == y)
section
variable {α : Type} [BEq α] {e : α → AV} (E : EncOk e)
include E
theorem q_isinL {y : α} {xs : List α} : primS .isin [e y, .list (xs.map e)] = some (.bool (xs.any (· == y))) := by
  have h1 : Sh 21 (.list (xs.map e)) := by
    rw [sh_list]; intro x hx; rw [List.mem_map] at hx; obtain ⟨z, _, rfl⟩ := hx; exact E.sh z
  have h : eqOk (e y) (.list (xs.map e)) = true := by unfold eqOk; rw [(E.sh y).shaped (by omega), h1.shaped (by omega)]; rfl
  show (inS (e y) (.list (xs.map e))).map PyData.bool = _
  rw [inS, if_pos h]
  simp [List.any_map, Function.comp_def, E.eq]
theorem q_isinT {y : α} {xs : List α} : primS .isin [e y, .tuple (xs.map e)] = some (.bool (xs.any (· == y))) := by
  have h1 : Sh 21 (.tuple (xs.map e)) := by
    rw [sh_tuple]; intro x hx; rw [List.mem_map] at hx; obtain ⟨z, _, rfl⟩ := hx; exact E.sh z
  have h : eqOk (e y) (.tuple (xs.map e)) = true := by unfold eqOk; rw [(E.sh y).shaped (by omega), h1.shaped (by omega)]; rfl
  show (inS (e y) (.tuple (xs.map e))).map PyData.bool = _
  rw [inS, if_pos h]
  simp [List.any_map, Function.comp_def, E.eq]
theorem q_notinL {y : α} {xs : List α} : primS .notin [e y, .list (xs.map e)] = some (.bool (!xs.any (· == y))) := by
  have h1 := q_isinL E (y := y) (xs := xs)
  show (inS (e y) (.list (xs.map e))).map _ = _
  have h2 : (inS (e y) (.list (xs.map e))).map PyData.bool = some (.bool (xs.any (· == y))) := h1
  cases h3 : inS (e y) (.list (xs.map e)) with
  | none => rw [h3] at h2; cases h2
  | some b => rw [h3] at h2; simp at h2; simp [h2]
theorem eqS_enc {x y : α} : eqS (e x) (e y) = some (x == y) := by
  have h : eqOk (e x) (e y) = true := by unfold eqOk; rw [(E.sh x).shaped (by omega), (E.sh y).shaped (by omega)]; rfl
  unfold eqS
  split
  · rename_i i j h1 h2
    have := E.eq x y
    rw [h1, h2] at this
    simp at this
    simp [this]
  · rw [if_pos h, E.eq]
theorem q_eqE {x y : α} : primS .eq [e x, e y] = some (.bool (x == y)) := by
  show (eqS (e x) (e y)).map _ = _; rw [eqS_enc E]; rfl
theorem q_neE {x y : α} : primS .ne [e x, e y] = some (.bool !(x == y)) := by
  show (eqS (e x) (e y)).map _ = _; rw [eqS_enc E]; rfl
end
/-- lists of plain values are plain values -/
theorem eqvAll_enc {α : Type} [BEq α] {e : α → AV} (h : ∀ x y, PyData.eqv (e x) (e y) = (x == y)) : ∀ {xs ys : List α}, PyData.eqvAll (xs.map e) (ys.map e) = (xs == ys)
  | [], [] => by simp
  | x :: xs, [] => by simp
  | [], y :: ys => by simp
  | x :: xs, y :: ys => by
    simp only [List.map_cons, eqvAll_cons, h, eqvAll_enc h]; rfl
def encN (n : Nat) : AV := .int n
def encI (n : Int) : AV := .int n
def encO (o : Option Nat) : AV := match o with
  | none => .none
  | some n => .int n
def encP (p : Nat × Nat) : AV := .tuple [.int p.1, .int p.2]
@[simp] theorem encO_none : encO none = .none := rfl
@[simp] theorem encO_some {n : Nat} : encO (some n) = .int n := rfl
theorem encN_ok : EncOk encN := ⟨fun x => by simp [encN], fun x y => by simp only [encN, eqv_ii]; rw [Bool.eq_iff_iff]; simp; omega⟩
theorem encI_ok : EncOk encI := ⟨fun x => by simp [encI], fun x y => by simp only [encI, eqv_ii]⟩
theorem encO_ok : EncOk encO := ⟨fun x => by cases x <;> simp, fun x y => by
  cases x <;> cases y <;> simp
  rw [Bool.eq_iff_iff]; simp; omega⟩
theorem encP_ok : EncOk encP := ⟨fun x => by simp [encP], fun x y => by
  obtain ⟨a, b⟩ := x; obtain ⟨c, d⟩ := y
  simp only [encP, eqv_tt, eqvAll_cons, eqv_ii, eqvAll_nil, Bool.and_true]
  rw [Bool.eq_iff_iff]; simp; omega⟩
/-- the number of a value's kind, as the laws count -/
def sortN : AV → Int
  | .none => 0
  | .bool _ => 1
  | .int _ => 2
  | .str _ => 3
  | .tuple _ => 4
  | .list _ => 5
  | .dict _ => 6
/-- plain data of at most so many levels -/
def WF : Nat → AV → Bool
  | _, .none => true
  | _, .bool _ => true
  | _, .int _ => true
  | _, .str s => PyData.strOk s
  | n + 1, .list xs => decide (xs.length ≤ sz) && xs.all (WF n)
  | n + 1, .tuple xs => decide (xs.length ≤ sz) && xs.all (WF n)
  | _, _ => false
def ltP (x y : Nat × Nat) : Bool := decide (x.1 < y.1 ∨ x.1 = y.1 ∧ x.2 < y.2)
theorem q_ltP {x y : Nat × Nat} : primS .lt [encP x, encP y] = some (.bool (ltP x y)) := by
  have h : eqOk (encP x) (encP y) = true := by unfold eqOk; rw [(encP_ok.sh x).shaped (by omega), (encP_ok.sh y).shaped (by omega)]; rfl
  have h2 : PySem.W.alike (encP x) (encP y) = true := by simp [encP, PySem.W.alike, PySem.W.alikeAll]
  show cmpI (fun i j => decide (i < j)) PySem.W.dataLt (encP x) (encP y) = _
  unfold encP at h h2 ⊢
  rw [cmpI, h, h2]
  simp only [Bool.and_self, if_true]
  rw [PySem.W.dataLt_ii]
  unfold ltP
  congr 2
  rw [Bool.eq_iff_iff, decide_eq_true_eq, decide_eq_true_eq]
  omega
end G
/-! dicts, by plain pairs -/
namespace G
open PySem
theorem q_isinG {a b : AV} : primS .isin [a, b] = (inS a b).map PyData.bool := rfl
theorem q_notinG {a b : AV} : primS .notin [a, b] = (inS a b).map fun k => PyData.bool !k := rfl
section
variable {α : Type} [BEq α] [LawfulBEq α]
def lookN (k : α) : List (α × AV) → Option AV
  | [] => none
  | (a, v) :: r => if a == k then some v else lookN k r
def putN (k : α) (v : AV) (l : List (α × AV)) : List (α × AV) :=
  if l.any fun p => p.1 == k then l.map fun p => if p.1 == k then (p.1, v) else p else l ++ [(k, v)]
def mergeN : List (α × AV) → List (α × AV) → List (α × AV)
  | acc, [] => acc
  | acc, (k, v) :: r => mergeN (putN k v acc) r
def encK (e : α → AV) (p : α × AV) : AV × AV := (e p.1, p.2)
variable {e : α → AV} (E : EncOk e)
include E
theorem lookD_enc {k : α} : ∀ {l : List (α × AV)}, lookD (e k) (l.map (encK e)) = lookN k l
  | [] => rfl
  | (a, v) :: r => by
    rw [List.map_cons, encK, lookD, lookN, E.eq]
    split <;> first | rfl | exact lookD_enc
theorem putD_enc {k : α} {v : AV} {l : List (α × AV)} : putD (e k) v (l.map (encK e)) = (putN k v l).map (encK e) := by
  unfold putD putN
  rw [List.any_map]
  have h : ((fun p : AV × AV => PyData.eqv p.1 (e k)) ∘ encK e) = fun p : α × AV => p.1 == k := by funext p; exact E.eq _ _
  rw [h]
  split
  · rw [List.map_map, List.map_map]
    apply List.map_congr_left
    intro p hp
    simp only [Function.comp_apply, encK, E.eq]
    split <;> rfl
  · rw [List.map_append]; rfl
theorem mergeD_enc : ∀ {l acc : List (α × AV)}, mergeD (acc.map (encK e)) (l.map (encK e)) = (mergeN acc l).map (encK e)
  | [], acc => rfl
  | (k, v) :: r, acc => by
    rw [List.map_cons, encK, mergeD, putD_enc E, mergeD_enc, mergeN]
theorem pairsS_enc : ∀ {l : List (α × AV)}, (∀ p ∈ l, flatKey (e p.1) = true) → pairsS (l.map fun p => .tuple [e p.1, p.2]) = some (l.map (encK e))
  | [], _ => rfl
  | p :: r, h => by
    rw [List.map_cons, pairsS, if_pos (h p (by simp)), pairsS_enc fun q hq => h q (by simp [hq])]
    rfl
theorem q_dictP {l : List (α × AV)} (h : ∀ p ∈ l, flatKey (e p.1) = true) : primS .dictP [.list (l.map fun p => .tuple [e p.1, p.2])] = some (mkD 0 ((mergeN [] l).map (encK e))) := by
  show (pairsS _).map (fun kvs => mkD 0 (mergeD [] kvs)) = _
  rw [pairsS_enc E h]
  have := mergeD_enc E (l := l) (acc := [])
  rw [List.map_nil] at this
  simp [this]
theorem ixS_mkD {t : Nat} {k : α} {l : List (α × AV)} (h : keyOk t (e k) = true) : ixS (mkD t (l.map (encK e))) (e k) = lookN k l := by
  unfold mkD
  have : ixS (.dict ((.none, .int t) :: l.map (encK e))) (e k) = if keyOk (t : Int).toNat (e k) then lookD (e k) (l.map (encK e)) else none := rfl
  rw [this, Int.toNat_natCast, if_pos h, lookD_enc E]
theorem inS_mkD {t : Nat} {k : α} {l : List (α × AV)} (h : keyOk t (e k) = true) : inS (e k) (mkD t (l.map (encK e))) = some (lookN k l).isSome := by
  unfold mkD
  have : inS (e k) (.dict ((.none, .int t) :: l.map (encK e))) = if keyOk (t : Int).toNat (e k) then some (lookD (e k) (l.map (encK e))).isSome else none := rfl
  rw [this, Int.toNat_natCast, if_pos h, lookD_enc E]
omit E
theorem look_put {k x : α} {v : AV} {l : List (α × AV)} : lookN x (putN k v l) = if k == x then some v else lookN x l := by
  unfold putN
  split
  · rename_i h
    have : ∀ l : List (α × AV), lookN x (l.map fun p => if p.1 == k then (p.1, v) else p) = if (k == x) = true ∧ (l.any fun p => p.1 == k) = true then some v else lookN x l := by
      intro l
      induction l with
      | nil => simp [lookN]
      | cons p r ih =>
        obtain ⟨a, w⟩ := p
        rw [List.map_cons]
        by_cases ha : a = k
        · subst ha
          simp only [beq_self_eq_true, if_true, lookN, List.any_cons, Bool.true_or, and_true]
          by_cases hx : (a == x) = true
          · simp [hx]
          · simp only [hx, if_false, Bool.false_eq_true]
            rw [ih]; simp [hx]
        · have hak : (a == k) = false := by simpa using ha
          simp only [hak, Bool.false_eq_true, if_false, lookN, List.any_cons, Bool.false_or]
          by_cases hx : (a == x) = true
          · have : ¬ (k == x) = true := by
              intro h2
              have h3 : a = x := by simpa using hx
              have h4 : k = x := by simpa using h2
              exact ha (h3.trans h4.symm)
            simp [hx, this]
          · simp only [hx, if_false, Bool.false_eq_true]
            exact ih
    rw [this l]
    by_cases hx : (k == x) = true
    · rw [if_pos ⟨hx, h⟩, if_pos hx]
    · rw [if_neg (fun z => hx z.1), if_neg hx]
  · rename_i h
    have : ∀ l : List (α × AV), ¬ (l.any fun p => p.1 == k) = true → lookN x (l ++ [(k, v)]) = if k == x then some v else lookN x l := by
      intro l
      induction l with
      | nil => intro _; simp [lookN]
      | cons p r ih =>
        obtain ⟨a, w⟩ := p
        intro h
        rw [List.any_cons] at h
        have h1 : ¬ (a == k) = true := fun z => h (by simp [z])
        have h2 : ¬ (r.any fun p => p.1 == k) = true := fun z => h (by simp [z])
        rw [List.cons_append, lookN]
        by_cases hx : (a == x) = true
        · have : ¬ (k == x) = true := by
            intro h3
            have h4 : a = x := by simpa using hx
            have h5 : k = x := by simpa using h3
            exact h1 (by simp [h4, h5])
          simp [hx, this, lookN]
        · simp only [hx, if_false, Bool.false_eq_true]
          rw [ih h2, lookN]
          simp [hx]
    exact this l h
/-- what a dict made of pairs tells, where alike keys have alike values -/
theorem look_merge {x : α} {w : AV} : ∀ (l acc : List (α × AV)), (∀ p ∈ l, p.1 = x → p.2 = w) → lookN x (mergeN acc l) = if l.any (fun p => p.1 == x) then some w else lookN x acc
  | [], acc, _ => by simp [mergeN]
  | (k, v) :: r, acc, h => by
    rw [mergeN, look_merge r _ fun p hp => h p (by simp [hp]), look_put, List.any_cons]
    by_cases h1 : (r.any fun p => p.1 == x) = true
    · simp [h1]
    · by_cases h2 : (k == x) = true
      · have : v = w := h (k, v) (by simp) (by simpa using h2)
        simp [h1, h2, this]
      · simp [h1, h2]
end
end G
namespace G
open PySem
/-! ### the direct evaluator is monotone in its handler; plain functions in the place of defs -/
def DLe (C C' : DH) : Prop := ∀ f a r, C f a = some r → C' f a = some r
theorem evLoop_le {tg : AV → Env → Option Env} {c c' : Env → Option (Bool × Env)} {e e' : Env → Option (AV × Env)} (hc : ∀ ρ r, c ρ = some r → c' ρ = some r) (he : ∀ ρ r, e ρ = some r → e' ρ = some r) :
    ∀ (l acc : List AV) (ρ : Env) r, evLoop tg c e l acc ρ = some r → evLoop tg c' e' l acc ρ = some r
  | [], acc, ρ, r, h => h
  | x :: l, acc, ρ, r, h => by
    rw [evLoop] at h ⊢
    split at h
    · cases h
    · split at h
      · rename_i h2
        rw [hc _ _ h2]
        dsimp only
        split at h
        · rename_i h3
          rw [he _ _ h3]
          exact evLoop_le hc he _ _ _ _ h
        · cases h
      · rename_i h2
        rw [hc _ _ h2]
        exact evLoop_le hc he _ _ _ _ h
      · cases h
theorem thenO_le {α β : Type} {o o' : Option (α × Env)} {f f' : α → Env → Option β} (h : ∀ r, o = some r → o' = some r) (hf : ∀ a ρ r, f a ρ = some r → f' a ρ = some r) : ∀ r, thenO o f = some r → thenO o' f' = some r := by
  intro r hr
  cases o with
  | none => cases hr
  | some p => rw [h _ rfl]; exact hf _ _ _ hr
theorem brB_le {β : Type} {t : Option Bool} {a a' b b' : Option β} (ha : ∀ r, a = some r → a' = some r) (hb : ∀ r, b = some r → b' = some r) : ∀ r, brB t a b = some r → brB t a' b' = some r := by
  intro r hr
  cases t with
  | none => cases hr
  | some t => cases t <;> first | exact ha _ hr | exact hb _ hr
theorem chainK_le {p : Option AV} {ρ2 : Env} {k k' : Option (AV × Env)} (h : ∀ r, k = some r → k' = some r) : ∀ r, chainK p ρ2 k = some r → chainK p ρ2 k' = some r := by
  intro r hr
  unfold chainK at hr ⊢
  split at hr
  · exact h _ hr
  · exact hr
  · cases hr
mutual
theorem evE_le {C C' : DH} (hC : DLe C C') : ∀ (e : E) (ρ : Env) r, evE C e ρ = some r → evE C' e ρ = some r
  | .cst v, ρ, r, h => by rw [e_cst] at h ⊢; exact h
  | .var i, ρ, r, h => by rw [e_var] at h ⊢; exact h
  | .prim p as, ρ, r, h => by
    rw [e_prim] at h ⊢
    exact thenO_le (evEs_le hC _ as ρ) (fun _ _ _ h => h) r h
  | .and a b, ρ, r, h => by
    rw [e_and] at h ⊢
    exact thenO_le (evE_le hC a ρ) (fun v ρ1 r h => brB_le (evE_le hC b ρ1) (fun _ h => h) r h) r h
  | .or a b, ρ, r, h => by
    rw [e_or] at h ⊢
    exact thenO_le (evE_le hC a ρ) (fun v ρ1 r h => brB_le (fun _ h => h) (evE_le hC b ρ1) r h) r h
  | .not a, ρ, r, h => by
    rw [e_not] at h ⊢
    exact thenO_le (evE_le hC a ρ) (fun _ _ _ h => h) r h
  | .ife c a b, ρ, r, h => by
    rw [e_ife] at h ⊢
    exact thenO_le (evE_le hC c ρ) (fun v ρ1 r h => brB_le (evE_le hC a ρ1) (evE_le hC b ρ1) r h) r h
  | .chain p q a b c, ρ, r, h => by
    rw [e_chain] at h ⊢
    exact thenO_le (evE_le hC a ρ) (fun x ρ1 r h => thenO_le (evE_le hC b ρ1) (fun y ρ2 r h => chainK_le (thenO_le (evE_le hC c ρ2) fun _ _ _ h => h) r h) r h) r h
  | .comp k as t cs elt, ρ, r, h => by
    rw [evE] at h ⊢
    split at h
    · rename_i vs ρ1 h1
      rw [evEs_le hC _ as ρ _ h1]
      dsimp only
      split at h
      · rename_i items h2
        split at h
        · rename_i h3
          rw [if_pos h3]
          split at h
          · rename_i ys ρ2 h4
            rw [evLoop_le (fun ρ r h => evCs_le hC cs ρ r h) (fun ρ r h => evE_le hC elt ρ r h) _ _ _ _ h4]
            exact h
          · cases h
        · cases h
      · cases h
    · cases h
  | .call f as, ρ, r, h => by
    rw [e_call] at h ⊢
    refine thenO_le (evArgs_le hC as ρ) (fun ss ρ1 r h => ?_) r h
    split at h
    · rename_i hc
      rw [if_pos hc]
      cases h1 : C f ss with
      | none => rw [h1] at h; cases h
      | some q => rw [h1] at h; rw [hC _ _ _ h1]; exact h
    · cases h
  | .roll i e, ρ, r, h => by rw [evE] at h; cases h
  | .disp as, ρ, r, h => by
    rw [e_disp] at h ⊢
    exact thenO_le (evEs_le hC _ as ρ) (fun _ _ _ h => h) r h
  | .pop i, ρ, r, h => by rw [evE] at h ⊢; exact h
  | .popAt i e, ρ, r, h => by rw [evE] at h; cases h
  | .idx a e, ρ, r, h => by
    rw [e_idx] at h ⊢
    refine thenO_le (evE_le hC a ρ) (fun v ρ1 r h => ?_) r h
    split at h
    · exact thenO_le (evE_le hC e ρ1) (fun _ _ _ h => h) r h
    · cases h
theorem evEs_le {C C' : DH} (hC : DLe C C') (pk : Bool) : ∀ (e : Es) (ρ : Env) r, evEs C pk e ρ = some r → evEs C' pk e ρ = some r
  | .nil, ρ, r, h => by rw [e_nil] at h ⊢; exact h
  | .cons a t, ρ, r, h => by
    rw [e_cons] at h ⊢
    exact thenO_le (evE_le hC a ρ) (fun v ρ1 r h => thenO_le (evEs_le hC pk t ρ1) (fun _ _ _ h => h) r h) r h
  | .pk i t, ρ, r, h => by
    rw [evEs] at h ⊢
    split at h
    · rename_i hc
      rw [if_pos hc]
      cases h1 : evEs C pk t ρ with
      | none => rw [h1] at h; cases h
      | some q => rw [h1] at h; rw [evEs_le hC pk t ρ _ h1]; exact h
    · cases h
theorem evArgs_le {C C' : DH} (hC : DLe C C') : ∀ (e : Es) (ρ : Env) r, evArgs C e ρ = some r → evArgs C' e ρ = some r
  | .nil, ρ, r, h => by rw [e_anil] at h ⊢; exact h
  | .cons a t, ρ, r, h => by
    rw [e_acons] at h ⊢
    exact thenO_le (evE_le hC a ρ) (fun v ρ1 r h => thenO_le (evArgs_le hC t ρ1) (fun _ _ _ h => h) r h) r h
  | .pk i t, ρ, r, h => by
    rw [evArgs] at h ⊢
    split at h
    · rename_i hc
      rw [if_pos hc]
      cases h1 : evArgs C t ρ with
      | none => rw [h1] at h; cases h
      | some q => rw [h1] at h; rw [evArgs_le hC t ρ _ h1]; exact h
    · cases h
theorem evCs_le {C C' : DH} (hC : DLe C C') : ∀ (e : Es) (ρ : Env) r, evCs C e ρ = some r → evCs C' e ρ = some r
  | .nil, ρ, r, h => by rw [e_true] at h ⊢; exact h
  | .cons a t, ρ, r, h => by
    rw [e_c] at h ⊢
    exact thenO_le (evE_le hC a ρ) (fun v ρ1 r h => brB_le (evCs_le hC t ρ1) (fun _ h => h) r h) r h
  | .pk i t, ρ, r, h => by rw [evCs] at h; cases h
end
/-- not a fault -/
def OLe (o o' : Out) : Prop := o = .bad ∨ o = o'
theorem OLe.same {o : Out} : OLe o o := .inr (Eq.refl _)
theorem tstO_le {o o' : Option (AV × Env)} (h : ∀ r, o = some r → o' = some r) : ∀ r, tstO o = some r → tstO o' = some r := by
  intro r hr
  cases o with
  | none => cases hr
  | some q => rw [h _ (Eq.refl _)]; exact hr
theorem evFor_le {tg : AV → Env → Option Env} {b b' : Env → Out} (h : ∀ ρ, OLe (b ρ) (b' ρ)) : ∀ (l : List AV) (ρ : Env), OLe (evFor tg b l ρ) (evFor tg b' l ρ)
  | [], ρ => .same
  | x :: l, ρ => by
    rw [evFor, evFor]
    cases tg x ρ with
    | none => exact .same
    | some ρ1 =>
      dsimp only
      rcases h ρ1 with h1 | h1
      · rw [h1]; exact .inl (Eq.refl _)
      · rw [← h1]; cases b ρ1 with
        | nx ρ2 => exact evFor_le h l ρ2
        | ct ρ2 => exact evFor_le h l ρ2
        | _ => exact .same
theorem evWhile_le {c c' : Env → Option (Bool × Env)} {b b' : Env → Out} (hc : ∀ ρ r, c ρ = some r → c' ρ = some r) (h : ∀ ρ, OLe (b ρ) (b' ρ)) : ∀ (n : Nat) (ρ : Env), OLe (evWhile c b n ρ) (evWhile c' b' n ρ)
  | 0, ρ => .same
  | n + 1, ρ => by
    rw [evWhile, evWhile]
    cases h1 : c ρ with
    | none => exact .inl (Eq.refl _)
    | some q =>
      rw [hc _ _ h1]
      obtain ⟨t, ρ1⟩ := q
      cases t with
      | false => exact .same
      | true =>
        dsimp only
        rcases h ρ1 with h2 | h2
        · rw [h2]; exact .inl (Eq.refl _)
        · rw [← h2]; cases b ρ1 with
          | nx ρ2 => exact evWhile_le hc h n ρ2
          | ct ρ2 => exact evWhile_le hc h n ρ2
          | _ => exact .same
theorem evS_le {C C' : DH} (hC : DLe C C') {N : Nat} : ∀ (s : S) (ρ : Env), OLe (evS C N s ρ) (evS C' N s ρ)
  | .skip, ρ => by rw [evS, evS]; exact .same
  | .brk, ρ => by rw [evS, evS]; exact .same
  | .cnt, ρ => by rw [evS, evS]; exact .same
  | .stuck, ρ => by rw [evS, evS]; exact .same
  | .seq a b, ρ => by
    rw [evS, evS]
    rcases evS_le hC a ρ with h | h
    · rw [h]; exact .inl (Eq.refl _)
    · rw [← h]; cases evS C N a ρ with
      | nx ρ1 => exact evS_le hC b ρ1
      | _ => exact .same
  | .asg t e, ρ => by
    rw [evS, evS]
    cases h : evE C e ρ with
    | none => exact .inl (Eq.refl _)
    | some q => rw [evE_le hC e ρ _ h]; exact .same
  | .own i e, ρ => by
    rw [evS, evS]
    split
    · cases h : evE C e ρ with
      | none => exact .inl (Eq.refl _)
      | some q => rw [evE_le hC e ρ _ h]; exact .same
    · exact .same
  | .par is as, ρ => by
    rw [evS, evS]
    split
    · cases h : evEs C false as ρ with
      | none => exact .inl (Eq.refl _)
      | some q => rw [evEs_le hC _ as ρ _ h]; exact .same
    · exact .same
  | .app i e, ρ => by
    rw [evS, evS]
    split
    · cases h : evE C e ρ with
      | none => exact .inl (Eq.refl _)
      | some q => rw [evE_le hC e ρ _ h]; exact .same
    · exact .same
  | .put i ke e, ρ => by
    rw [evS, evS]
    split
    · cases h : evE C e ρ with
      | none => exact .inl (Eq.refl _)
      | some q =>
        rw [evE_le hC e ρ _ h]
        obtain ⟨v, ρ1⟩ := q
        dsimp only
        cases h2 : evE C ke ρ1 with
        | none => exact .inl (Eq.refl _)
        | some q => rw [evE_le hC ke ρ1 _ h2]; exact .same
    · exact .same
  | .ife c a b, ρ => by
    rw [evS, evS]
    cases h : tstO (evE C c ρ) with
    | none => exact .inl (Eq.refl _)
    | some q =>
      rw [tstO_le (evE_le hC c ρ) _ h]
      obtain ⟨t, ρ1⟩ := q
      cases t with
      | true => exact evS_le hC a ρ1
      | false => exact evS_le hC b ρ1
  | .whl c b, ρ => by
    rw [evS, evS]
    exact evWhile_le (fun ρ => tstO_le (evE_le hC c ρ)) (fun ρ => evS_le hC b ρ) N ρ
  | .for_ k as t b, ρ => by
    rw [evS, evS]
    cases h : evEs C false as ρ with
    | none => exact .inl (Eq.refl _)
    | some q =>
      rw [evEs_le hC _ as ρ _ h]
      obtain ⟨vs, ρ1⟩ := q
      dsimp only
      cases srcS k vs with
      | none => exact .same
      | some items => exact evFor_le (fun ρ => evS_le hC b ρ) items ρ1
  | .ret e, ρ => by
    rw [evS, evS]
    cases h : evE C e ρ with
    | none => exact .inl (Eq.refl _)
    | some q => rw [evE_le hC e ρ _ h]; exact .same
  | .exp e, ρ => by
    rw [evS, evS]
    cases h : evE C e ρ with
    | none => exact .inl (Eq.refl _)
    | some q => rw [evE_le hC e ρ _ h]; exact .same
theorem evEnd_le {args : List Slot} {o o' : Out} (h : OLe o o') : ∀ r, evEnd args o = some r → evEnd args o' = some r := by
  intro r hr
  rcases h with h | h
  · rw [h] at hr; cases hr
  · rw [← h]; exact hr
/-- deeper is no less -/
theorem evF_step {P : List Fn} {N : Nat} : ∀ k, DLe (evF P N k) (evF P N (k + 1))
  | 0 => fun f a r h => by cases h
  | k + 1 => fun f a r h => by
    rw [evF] at h ⊢
    dsimp only at h ⊢
    split at h
    · cases h
    · split at h
      · rename_i hc
        rw [if_pos hc]
        exact evEnd_le (evS_le (evF_step k) _ _) r h
      · cases h
theorem evF_le {P : List Fn} {N k m : Nat} (h : k ≤ m) : DLe (evF P N k) (evF P N m) := by
  induction h with
  | refl => exact fun f a r h => h
  | step h ih => exact fun f a r h => evF_step _ f a r (ih f a r h)
/-- the evaluator with plain functions in the place of some defs -/
def evA (acc : Nat → List Slot → Option (AV × List Slot)) (P : List Fn) (N : Nat) : Nat → DH
  | 0 => fun _ _ => none
  | k + 1 => fun f args => match acc f args with
    | some r => some r
    | none => match P[f]? with
      | none => none
      | some d => if args.length = d.ar ∧ d.ar ≤ d.ns ∧ lentOk d 0 args = true then evEnd args (evS (evA acc P N k) N d.body (args ++ List.replicate (d.ns - d.ar) .none)) else none
theorem evA_ok {acc : Nat → List Slot → Option (AV × List Slot)} {P : List Fn} {N m : Nat} (h : ∀ f a r, acc f a = some r → evF P N m f a = some r) : ∀ k, DLe (evA acc P N k) (evF P N (m + k))
  | 0 => fun f a r h => by cases h
  | k + 1 => fun f a r q => by
    rw [evA] at q
    dsimp only at q
    split at q
    · rename_i e
      cases q
      exact evF_le (by omega) _ _ _ (h _ _ _ e)
    · rw [← Nat.add_assoc, evF]
      dsimp only
      cases hd : P[f]? with
      | none => rw [hd] at q; cases q
      | some d =>
        rw [hd] at q
        dsimp only at q ⊢
        split at q
        · rename_i hc
          rw [if_pos hc]
          exact evEnd_le (evS_le (evA_ok h k) _ _) r q
        · cases q
end G
/-! draws: rules for the evaluator that asks for all of them -/
namespace G
open PySem
inductive RelL (R : AV → AV → Prop) : List AV → List AV → Prop where
  | nil : RelL R [] []
  | cons {x y : AV} {xs ys : List AV} (h : R x y) (t : RelL R xs ys) : RelL R (x :: xs) (y :: ys)
theorem RelL.len {R : AV → AV → Prop} : ∀ {xs ys : List AV}, RelL R xs ys → ys.length = xs.length
  | _, _, .nil => rfl
  | _, _, .cons _ t => by simp [t.len]
theorem RelL.out {R : AV → AV → Prop} {p : AV → Prop} (hp : ∀ x y, R x y → p y) : ∀ {xs ys : List AV}, RelL R xs ys → ∀ y ∈ ys, p y
  | _, _, .nil, y, h => by simp at h
  | _, _, .cons h t, y, hy => by
    rw [List.mem_cons] at hy
    rcases hy with rfl | hy
    · exact hp _ _ h
    · exact t.out hp y hy
section
variable {C : Handler} {N : Nat} {ρ : Env}
/-- a comprehension whose items draw -/
theorem wp_comp {k : SrcK} {as : Es} {t : Tgt} {elt : E} {K : EK} (A : List AV → Env → Prop) (R : AV → AV → Prop)
    (h1 : ∀ K' : List AV → Env → Bool, (∀ vs ρ1, A vs ρ1 → K' vs ρ1 = true) → wpEs C false as ρ K' = true)
    (h : ∀ vs ρ1, A vs ρ1 → ∃ xs, srcS k vs = some xs ∧ t.slots.all (fun i => wipeable i ρ1) = true ∧ xs.length ≤ sz ∧
      (∀ x ∈ xs, ∃ ρx, assign t x (wipeS t.slots ρ1) = some ρx ∧ ∀ K' : EK, (∀ y, R x y → K' y ρx = true) → wpE C elt ρx K' = true) ∧
      ∀ ys, RelL R xs ys → K (.list ys) ρ1 = true) : wpE C (.comp k as t .nil elt) ρ K = true := by
  rw [wpE]
  refine h1 _ fun vs ρ1 hA => ?_
  obtain ⟨xs, h2, hw, hl, hx, hK⟩ := h vs ρ1 hA
  rw [h2]
  dsimp only
  rw [if_pos (by simp only [Bool.and_eq_true, decide_eq_true_eq]; exact ⟨hw, hl⟩)]
  have hlen : ∀ i ∈ t.slots, i < ρ1.length := by
    intro i hi
    have := List.all_eq_true.mp hw i hi
    unfold wipeable at this
    by_cases h : i < ρ1.length
    · exact h
    · rw [List.getElem?_eq_none (by omega)] at this; cases this
  have key : ∀ (l acc : List AV) (ρ' : Env), (∀ x ∈ l, x ∈ xs) → SameBut t.slots ρ1 ρ' → (∀ ys, RelL R l ys → K (.list (acc ++ ys)) ρ1 = true) →
      loopC (fun x ρ => assign t x (wipeS t.slots ρ)) (fun ρ K => wpCs C .nil ρ K) (fun ρ K => wpE C elt ρ K) (fun ys ρ2 => K (.list ys) (restore ρ1 t.slots ρ2)) l acc ρ' = true := by
    intro l
    induction l with
    | nil =>
      intro acc ρ' _ hb hk
      rw [loopC, hb.2 ρ1, restore_self hlen]
      simpa using hk [] .nil
    | cons x l ih =>
      intro acc ρ' hm hb hk
      obtain ⟨ρx, a1, a2⟩ := hx x (hm x (by simp))
      have hb2 : SameBut t.slots ρ1 ρx := by
        have b1 := sb_wipe (is := t.slots) (js := t.slots) (ρ := ρ1) fun i hi => hi
        have b2 := sb_assign a1
        exact ⟨b2.1.trans b1.1, fun old => (b2.2 old).trans (b1.2 old)⟩
      rw [loopC, hb.1, a1]
      dsimp only
      rw [wpCs]
      simp only [if_true]
      refine a2 _ fun y hy => ?_
      refine ih (acc ++ [y]) ρx (fun z hz => hm z (by simp [hz])) hb2 fun ys hys => ?_
      have := hk (y :: ys) (.cons hy hys)
      simpa using this
  exact key xs [] ρ1 (fun x hx => hx) ⟨rfl, fun _ => rfl⟩ fun ys hys => by simpa using hK ys hys
/-- what is deterministic is settled by the direct evaluator -/
theorem wp_of_ss {P : List Fn} {k : Nat} {s : S} {D : Ks} (h : SS (evF P N k) N s ρ (Asks D)) : wpS (wpF P N k) N s ρ D = true := by
  rw [ss_def] at h
  exact evS_ok (evF_ok k) s ρ D h
theorem wp_call {P : List Fn} {k f : Nat} {args : List Slot} {r : AV × List Slot} {K : AV → List Slot → Bool} (h : evF P N k f args = some r) (q : K r.1 r.2 = true) : wpF P N k f args K = true := evF_ok k f args r.1 r.2 h K q
theorem wpF_enter {P : List Fn} {k j : Nat} {args : List Slot} {d : Fn} {K : AV → List Slot → Bool} (hd : P[j]? = some d) (h : decide (args.length = d.ar ∧ d.ar ≤ d.ns ∧ lentOk d 0 args = true) = true)
    (q : wpS (wpF P N k) N d.body (args ++ List.replicate (d.ns - d.ar) .none) ⟨fun ρ => (match outs args ρ with | some os => K .none os | none => false), fun v ρ => (match outs args ρ with | some os => K v os | none => false), fun _ => false, fun _ => false⟩ = true) : wpF P N (k + 1) j args K = true := by
  rw [wpF]
  dsimp only
  rw [hd]
  dsimp only
  rw [if_pos (of_decide_eq_true h)]
  exact q
theorem wp_asg {t : Tgt} {e : E} {b : S} {D : Ks} (h : wpE C e ρ (fun v ρ1 => match assign t v ρ1 with
    | some ρ2 => wpS C N b ρ2 D
    | none => false) = true) : wpS C N (.seq (.asg t e) b) ρ D = true := by rw [wpS, wpS]; exact h
theorem wp_prim {p : Prim} {as : Es} {K : EK} (h : wpEs C p.pkOk as ρ (fun vs ρ1 => match primS p vs with
    | some v => K v ρ1
    | none => false) = true) : wpE C (.prim p as) ρ K = true := by rw [wpE]; exact h
theorem wp_cons {pk : Bool} {a : E} {r : Es} {K : List AV → Env → Bool} (h : wpE C a ρ (fun v ρ1 => wpEs C pk r ρ1 fun vs ρ2 => K (v :: vs) ρ2) = true) : wpEs C pk (.cons a r) ρ K = true := by rw [wpEs]; exact h
theorem wp_roll {i : Nat} {n : Nat} {K : EK} (hc : isCup i ρ = true) (h0 : 0 < n) (h1 : n < 2 ^ 200) (h : ∀ r, r < n → K (.int (r : Nat)) ρ = true) : wpE C (.roll i (.cst (.int (n : Nat)))) ρ K = true := by
  rw [wpE, if_pos hc, wpE, hc]
  dsimp only
  rw [Bool.and_eq_true, Bool.and_eq_true, decide_eq_true_eq, decide_eq_true_eq]
  refine ⟨⟨by omega, by omega⟩, allB_iff.mpr fun r hr => h r (by simpa using hr)⟩
/-- a roll whose bound is reckoned first -/
theorem wp_rollE {i : Nat} {e : E} {K : EK} (hc : isCup i ρ = true) (h : wpE C e ρ (fun v ρ1 => match v, isCup i ρ1 with
    | .int n, true => decide (0 < n) && decide (n < 2 ^ 200) && allB (fun r => K (.int r) ρ1) n.toNat
    | _, _ => false) = true) : wpE C (.roll i e) ρ K = true := by rw [wpE, if_pos hc]; exact h
/-- a loop by what stays -/
theorem wp_for {k : SrcK} {as : Es} {t : Tgt} {b : S} {D : Ks} (vs items : List AV) (I : Env → Prop) (h1 : ∀ K' : List AV → Env → Bool, K' vs ρ = true → wpEs C false as ρ K' = true) (h2 : srcS k vs = some items) (h0 : I ρ)
    (hx : ∀ x ∈ items, ∀ ρ, I ρ → ∃ ρ2, assign t x ρ = some ρ2 ∧ ∀ nx' : Env → Bool, (∀ ρ3, I ρ3 → nx' ρ3 = true) → wpS C N b ρ2 ⟨nx', D.rt, D.nx, nx'⟩ = true) (q : ∀ ρ, I ρ → D.nx ρ = true) : wpS C N (.for_ k as t b) ρ D = true := by
  rw [wpS]
  refine h1 _ ?_
  rw [h2]
  dsimp only
  have key : ∀ (l : List AV) (ρ : Env), (∀ x ∈ l, x ∈ items) → I ρ → forN (assign t) (fun ρ D => wpS C N b ρ D) D l ρ = true := by
    intro l
    induction l with
    | nil => intro ρ _ hI; exact q ρ hI
    | cons x l ih =>
      intro ρ hm hI
      obtain ⟨ρ2, a1, a2⟩ := hx x (hm x (by simp)) ρ hI
      rw [forN, a1]
      exact a2 _ fun ρ3 h3 => ih ρ3 (fun y hy => hm y (by simp [hy])) h3
  exact key items ρ (fun x hx => hx) h0
theorem wp_seq {a b : S} {D : Ks} (h : wpS C N a ρ ⟨fun ρ1 => wpS C N b ρ1 D, D.rt, D.bk, D.ct⟩ = true) : wpS C N (.seq a b) ρ D = true := by rw [wpS]; exact h
end
end G
/-! arrows: plain forms -/
namespace AR
open PySem G
def encA (n : Nat) (rows : List (Nat × Nat)) : AV := .tuple [.int n, .tuple (rows.map encP)]
structure AOk (n : Nat) (rows : List (Nat × Nat)) : Prop where
  pos : 1 ≤ n
  le : n ≤ 12
  lt : ∀ p ∈ rows, p.1 < n ∧ p.2 < n ∧ p.1 ≠ p.2
  asc : (rows.zip (rows.drop 1)).all (fun p => ltP p.1 p.2) = true
  len : rows.length ≤ 1000
def endsOf (n : Nat) (rows : List (Nat × Nat)) : List (List Nat) := (List.range n).map fun s => (rows.filter fun p => p.1 == s).map (·.2)
theorem endsOf_get {n c : Nat} {rows : List (Nat × Nat)} {row : List Nat} (h : (endsOf n rows)[c]? = some row) : c < n ∧ row = (rows.filter fun p => p.1 == c).map (·.2) := by
  unfold endsOf at h
  rw [List.getElem?_map] at h
  by_cases hc : c < n
  · rw [List.getElem?_range hc] at h
    simp at h
    exact ⟨hc, h.symm⟩
  · rw [List.getElem?_eq_none (by simpa using hc)] at h; cases h
theorem endsOf_len {n : Nat} {rows : List (Nat × Nat)} : (endsOf n rows).length = n := by simp [endsOf]
theorem endsOf_lt {n c : Nat} {rows : List (Nat × Nat)} {row : List Nat} (A : AOk n rows) (h : (endsOf n rows)[c]? = some row) : ∀ e ∈ row, e < n := by
  obtain ⟨_, rfl⟩ := endsOf_get h
  intro e he
  rw [List.mem_map] at he
  obtain ⟨p, hp, rfl⟩ := he
  exact (A.lt p ((List.mem_filter.mp hp).1)).2.1
def kindW (o : Option Nat) : Str := match o with
  | none => ⟨#[111, 112, 101, 110]⟩
  | some r => if r % 2 = 1 then ⟨#[119, 111, 110]⟩ else ⟨#[108, 111, 115, 116]⟩
def pN (o : Option Nat) : Bool := match o with
  | none => true
  | some v => v % 2 == 1
def pE (r : Nat) (o : Option Nat) : Bool := match o with
  | none => false
  | some v => v % 2 == 0 && decide (v < r)
def pO (r : Nat) (o : Option Nat) : Bool := match o with
  | none => false
  | some v => v % 2 == 1 && decide (v < r)
def pO1 (o : Option Nat) : Bool := match o with
  | none => false
  | some v => v % 2 == 1
def pW (o : Option Nat) : Bool := match o with
  | none => true
  | some r => decide (r ≤ 1000)
def fitsG (r : Option Nat) (l : List (Option Nat)) : Bool := match r with
  | none => l.any Option.isNone && l.all pN
  | some r => if r % 2 = 1 then l.any (pE r) else l.all (pO r)
def isRow (n : Nat) (rows : List (Nat × Nat)) (v : List (Option Nat)) : Bool :=
  decide (v.length = n) && v.all pW && ((v.zip (endsOf n rows)).all fun p => fitsG p.1 (p.2.map fun e => v.getD e none))
theorem fitsR_eq {r : Nat} {l : List (Option Nat)} : fitsR r l = if r % 2 = 1 then l.any (· == some (r - 1)) else l.all pO1 := by
  unfold fitsR
  split
  · rw [Bool.eq_iff_iff]; simp
  · congr 1; funext o; cases o <;> rfl
/-- one round, item by item -/
def putR (r : Nat) (found : List (Option Nat)) (s : List (Option Nat)) (p : List Nat × Nat) : List (Option Nat) :=
  if (found.getD p.2 none).isNone && fitsR r (p.1.map fun e => found.getD e none) then s.set p.2 (some r) else s
theorem fold_put {r : Nat} {found : List (Option Nat)} : ∀ (ends : List (List Nat)) (pre post : List (Option Nat)), post.length = ends.length → found = (found.take pre.length) ++ post →  pre.length + ends.length = found.length →
    (ends.zipIdx pre.length).foldl (putR r found) (pre ++ post) = pre ++ (ends.zipIdx pre.length).map fun p => if (found.getD p.2 none).isNone && fitsR r (p.1.map fun e => found.getD e none) then some r else found.getD p.2 none
  | [], pre, post, h1, h2, h3 => by
    have : post = [] := List.eq_nil_of_length_eq_zero (by simpa using h1)
    simp [this]
  | row :: ends, pre, post, h1, h2, h3 => by
    cases post with
    | nil => simp at h1
    | cons o post =>
      have ho : found.getD pre.length none = o := by
        rw [h2]
        simp [List.getD]
        have : min pre.length found.length = pre.length := by simp at h3; omega
        rw [List.getElem?_append_right (by simp; omega)]
        simp [this]
      simp only [List.zipIdx_cons, List.foldl_cons, List.map_cons]
      have hstep : putR r found (pre ++ o :: post) (row, pre.length) = (pre ++ [if (found.getD pre.length none).isNone && fitsR r (row.map fun e => found.getD e none) then some r else found.getD pre.length none]) ++ post := by
        unfold putR
        dsimp only
        split
        · simp
        · rw [ho]; simp
      rw [hstep]
      have hl : ∀ x : Option Nat, (pre ++ [x]).length = pre.length + 1 := fun x => by simp
      have ih := fold_put (r := r) (found := found) ends (pre ++ [if (found.getD pre.length none).isNone && fitsR r (row.map fun e => found.getD e none) then some r else found.getD pre.length none]) post (by simpa using h1) (by
        rw [hl]
        conv => lhs; rw [h2]
        have : found.take (pre.length + 1) = found.take pre.length ++ [o] := by
          rw [List.take_add_one]
          congr 1
          have hlt : pre.length < found.length := by simp at h3; omega
          rw [List.getD, List.getElem?_eq_getElem hlt] at ho
          rw [List.getElem?_eq_getElem hlt]
          simp at ho
          simp [ho]
        rw [this]; simp) (by rw [hl]; simp at h3; omega)
      rw [hl] at ih
      rw [ih]
      simp
theorem fold_step {r : Nat} {found : List (Option Nat)} {ends : List (List Nat)} (h : ends.length = found.length) : ends.zipIdx.foldl (putR r found) found = stepR ends found r := by
  have := fold_put (r := r) (found := found) ends [] found h.symm (by simp) (by simpa using h)
  simpa [stepR] using this
theorem stepR_len {r : Nat} {found : List (Option Nat)} {ends : List (List Nat)} : (stepR ends found r).length = ends.length := by simp [stepR]
end AR
/-! games as arrows: plain forms (k88) -/
namespace RT
open PySem G AR
/-- insertion sort -/
def insB {α : Type} (le : α → α → Bool) (x : α) : List α → List α
  | [] => [x]
  | y :: r => if le x y then x :: y :: r else y :: insB le x r
def srtB {α : Type} (le : α → α → Bool) : List α → List α
  | [] => []
  | x :: r => insB le x (srtB le r)
def leP (x y : Nat × Nat) : Bool := !ltP y x
theorem isort_enc {α : Type} {e : α → AV} {le : α → α → Bool} (h : ∀ x y, avLe (e x) (e y) = le x y) : ∀ l : List α, isort avLe (l.map e) = (srtB le l).map e
  | [] => rfl
  | x :: r => by
    have hi : ∀ (x : α) (l : List α), insS avLe (e x) (l.map e) = (insB le x l).map e := by
      intro x l
      induction l with
      | nil => rfl
      | cons y l ih =>
        simp only [List.map_cons, insS, insB, h]
        split
        · rfl
        · rw [ih]; rfl
    rw [List.map_cons, isort, isort_enc h r, hi]; rfl
theorem insB_mem {α : Type} {le : α → α → Bool} {x z : α} : ∀ {l : List α}, z ∈ insB le x l ↔ z = x ∨ z ∈ l
  | [] => by simp [insB]
  | y :: r => by
    unfold insB
    split
    · simp
    · simp [insB_mem (l := r)]
      constructor
      · rintro (h | h | h) <;> simp [h]
      · rintro (h | h | h) <;> simp [h]
theorem srtB_mem {α : Type} {le : α → α → Bool} {z : α} : ∀ {l : List α}, z ∈ srtB le l ↔ z ∈ l
  | [] => by simp [srtB]
  | y :: r => by rw [srtB, insB_mem, srtB_mem]; simp
theorem insB_len {α : Type} {le : α → α → Bool} {x : α} : ∀ {l : List α}, (insB le x l).length = l.length + 1
  | [] => rfl
  | y :: r => by unfold insB; split <;> simp [insB_len]
theorem srtB_len {α : Type} {le : α → α → Bool} : ∀ {l : List α}, (srtB le l).length = l.length
  | [] => rfl
  | y :: r => by rw [srtB, insB_len, srtB_len]; rfl
theorem avLe_P (x y : Nat × Nat) : avLe (encP x) (encP y) = leP x y := by
  show (!PySem.W.dataLt (encP y) (encP x)) = _
  unfold encP leP
  rw [PySem.W.dataLt_ii]
  unfold ltP
  congr 1
  rw [Bool.eq_iff_iff, decide_eq_true_eq, decide_eq_true_eq]
  omega
theorem sortedP {l : List (Nat × Nat)} : primS .sorted [.list (l.map encP)] = some (.list ((srtB leP l).map encP)) := by
  show (sortedS (l.map encP)).map PyData.list = _
  have h1 : allAlike (l.map encP) = true := by
    unfold allAlike
    rw [Bool.or_eq_true]; left
    cases l with
    | nil => rfl
    | cons x r =>
      show ((encP x :: r.map encP).all fun y => sameShape (encP x) y) = true
      rw [List.all_eq_true]
      intro y hy
      rw [List.mem_cons, List.mem_map] at hy
      rcases hy with rfl | ⟨z, _, rfl⟩ <;> simp [encP, sameShape, sameShapes]
  have h2 : sortable (l.map encP) = true := by
    unfold sortable
    rw [Bool.or_eq_true]; left
    rw [List.all_eq_true]
    intro y hy
    rw [List.mem_map] at hy
    obtain ⟨z, _, rfl⟩ := hy; rfl
  have h3 : G.shallow (l.map encP) = true := by
    unfold G.shallow
    rw [List.all_eq_true]
    intro y hy
    rw [List.mem_map] at hy
    obtain ⟨z, _, rfl⟩ := hy
    exact (encP_ok.sh z).shaped (by omega)
  unfold sortedS
  rw [h1, h2, h3]
  simp only [Bool.and_self, if_true, Option.map_some]
  rw [isort_enc avLe_P]

theorem q_ixD {d x : AV} : primS .ix [d, x] = ixS d x := by cases d <;> cases x <;> rfl
theorem q_rev {xs : List AV} : primS .rev [.list xs] = some (.list xs.reverse) := rfl
theorem q_sset {xs : List AV} : primS .sset [.list xs] = ssetS xs := rfl
theorem sl_one {xs : List AV} {t : Nat} : primS (.slice true true) [.list xs, .int (t : Int), .int ((t : Int) + 1)] = some (.list ((xs.drop t).take 1)) := by
  rw [primS]
  unfold cutS cut
  rw [show ((t : Int) + 1) = ((t + 1 : Nat) : Int) by omega]
  simp only [HT.sIx_nat]
  congr 2
  by_cases h : t < xs.length
  · rw [Nat.min_eq_left (by omega), Nat.min_eq_left (by omega), show t + 1 - t = 1 by omega]
  · rw [Nat.min_eq_right (by omega), Nat.min_eq_right (by omega), List.drop_of_length_le (Nat.le_refl _), List.drop_of_length_le (by omega)]
    simp
theorem indexS_enc {α : Type} [BEq α] {e : α → AV} (E : EncOk e) {y : α} : ∀ (f : List α) (n : Nat), f.any (· == y) = true → indexS (e y) (f.map e) n = some ((n + f.findIdx (· == y) : Nat) : Int)
  | [], n, h => by simp at h
  | x :: f, n, h => by
    rw [List.map_cons, indexS, E.eq, List.findIdx_cons]
    by_cases hx : (x == y) = true
    · rw [hx]; simp
    · have hx' : (x == y) = false := by simpa using hx
      rw [hx']
      rw [List.any_cons, hx', Bool.false_or] at h
      simp only [Bool.false_eq_true, if_false, cond_false]
      rw [indexS_enc E f (n + 1) h]
      congr 2
      omega
theorem shaped_listE {α : Type} [BEq α] {e : α → AV} (E : EncOk e) {y : α} {xs : List α} : eqOk (e y) (.list (xs.map e)) = true := by
  have h1 : Sh 21 (.list (xs.map e)) := by
    rw [sh_list]; intro x hx; rw [List.mem_map] at hx; obtain ⟨z, _, rfl⟩ := hx; exact E.sh z
  unfold eqOk; rw [(E.sh y).shaped (by omega), h1.shaped (by omega)]; rfl
section
variable {α : Type} [BEq α]
/-- the positions that a move adds -/
def growN (sm : α → List α) (f : List α) (x : α) : List α := f ++ (sm x).reverse.filter fun y => !f.any (· == y)
def turnN (sm : α → List α) (f : List α) (t : Nat) : List α := ((f.drop t).take 1).foldl (growN sm) f
def foundN (sm : α → List α) (start : α) : List α := (List.range 12).foldl (turnN sm) [start]
theorem growN_sub {sm : α → List α} {f : List α} {x : α} : (∀ y ∈ f, y ∈ growN sm f x) ∧ f.length ≤ (growN sm f x).length := by
  unfold growN; exact ⟨fun y hy => by simp [hy], by simp⟩
theorem foldg_sub {sm : α → List α} : ∀ (l f : List α), (∀ y ∈ f, y ∈ l.foldl (growN sm) f) ∧ f.length ≤ (l.foldl (growN sm) f).length
  | [], f => ⟨fun y h => h, Nat.le_refl _⟩
  | x :: l, f => by
    have a := growN_sub (sm := sm) (f := f) (x := x)
    have b := foldg_sub (sm := sm) l (growN sm f x)
    exact ⟨fun y h => b.1 y (a.1 y h), Nat.le_trans a.2 b.2⟩
theorem foldt_sub {sm : α → List α} : ∀ (l : List Nat) (f : List α), (∀ y ∈ f, y ∈ l.foldl (turnN sm) f) ∧ f.length ≤ (l.foldl (turnN sm) f).length
  | [], f => ⟨fun y h => h, Nat.le_refl _⟩
  | t :: l, f => by
    have a := foldg_sub (sm := sm) ((f.drop t).take 1) f
    have b := foldt_sub (sm := sm) l (turnN sm f t)
    exact ⟨fun y h => b.1 y (a.1 y h), Nat.le_trans a.2 b.2⟩
theorem foldg_U {sm : α → List α} {U : α → Prop} (hc : ∀ x, U x → ∀ y ∈ sm x, U y) : ∀ (l f : List α), (∀ x ∈ l, U x) → (∀ x ∈ f, U x) → ∀ x ∈ l.foldl (growN sm) f, U x
  | [], f, _, h => h
  | z :: l, f, hl, h => by
    refine foldg_U hc l _ (fun x hx => hl x (by simp [hx])) fun x hx => ?_
    unfold growN at hx
    rw [List.mem_append, List.mem_filter, List.mem_reverse] at hx
    rcases hx with hx | ⟨hx, _⟩
    · exact h x hx
    · exact hc z (hl z (by simp)) x hx
theorem foldt_U {sm : α → List α} {U : α → Prop} (hc : ∀ x, U x → ∀ y ∈ sm x, U y) : ∀ (l : List Nat) (f : List α), (∀ x ∈ f, U x) → ∀ x ∈ l.foldl (turnN sm) f, U x
  | [], f, h => h
  | t :: l, f, h => foldt_U hc l _ (foldg_U hc _ _ (fun x hx => h x (List.mem_of_mem_drop (List.mem_of_mem_take hx))) h)
theorem found_U {sm : α → List α} {U : α → Prop} (hc : ∀ x, U x → ∀ y ∈ sm x, U y) {start : α} (h : U start) : ∀ x ∈ foundN sm start, U x := foldt_U hc _ _ (by simpa using h)
def idxN (f : List α) (y : α) : Nat := f.findIdx (· == y)
def rowsN (sm : α → List α) (f : List α) : List (Nat × Nat) := f.zipIdx.foldl (fun rows p => rows ++ (sm p.1).map fun y => (p.2, idxN f y)) []
def aokB (n : Nat) (rows : List (Nat × Nat)) : Bool :=
  decide (1 ≤ n) && decide (n ≤ 12) && (rows.all fun p => decide (p.1 < n) && decide (p.2 < n) && p.1 != p.2) && ((rows.zip (rows.drop 1)).all fun p => ltP p.1 p.2) && decide (rows.length ≤ 1000)
theorem aok_of {n : Nat} {rows : List (Nat × Nat)} (h : aokB n rows = true) : AOk n rows := by
  unfold aokB at h
  simp only [Bool.and_eq_true, decide_eq_true_eq, List.all_eq_true, bne_iff_ne] at h
  obtain ⟨⟨⟨⟨a, b⟩, c⟩, d⟩, e⟩ := h
  refine ⟨a, b, fun p hp => ?_, ?_, e⟩
  · have := c p hp; exact ⟨this.1.1, this.1.2, this.2⟩
  · rw [List.all_eq_true]; exact d
def dueS (b : Bool) : Str := if b then ⟨#[108, 111, 115, 116]⟩ else ⟨#[119, 111, 110]⟩
/-- what _law_right asks -/
def rightN (mv sm : α → List α) (lost : α → Bool) (start : α) : Bool :=
  let f := foundN sm start
  let n := f.length
  let rows := srtB leP (rowsN sm f)
  let ranks := ranksN n (endsOf n rows)
  aokB n rows && (f.all fun x => (mv x).all fun y => f.any (· == y)) && (f.all fun x => (sm x).all fun y => f.any (· == y)) &&
  (f.zipIdx.all fun p => kindW (ranks.getD p.2 none) == dueS (lost p.1)) &&
  isRow n rows ranks && (ranks.all fun o => match o with
    | none => false
    | some r => decide (r < n)) &&
  (f.zipIdx.all fun p => (lost p.1 == !(mv p.1).any lost) && (match ranks.getD p.2 none with
    | none => false
    | some r => r % 2 == if lost p.1 then 0 else 1))
end
def eD (b : Bool) : AV := .str (dueS b)
theorem eD_ok : EncOk eD := ⟨fun b => by cases b <;> exact ⟨by decide +kernel, by decide⟩, fun a b => by
  cases a <;> cases b <;> simp only [eD, eqv_ss] <;> decide⟩
def encB (b : Bool) : AV := .bool b
theorem encB_ok : EncOk encB := ⟨fun b => by simp [encB], fun a b => by simp [encB]⟩
theorem fold_max_lt {n : Int} : ∀ (l : List Int) (m : Int), m < n → (∀ x ∈ l, x < n) → l.foldl (fun m y => if y > m then y else m) m < n
  | [], m, h, _ => h
  | x :: l, m, h, hl => by
    rw [List.foldl_cons]
    refine fold_max_lt l _ ?_ fun y hy => hl y (by simp [hy])
    split
    · exact hl x (by simp)
    · exact h
theorem maxI_lt {n : Int} {l : List Int} (h0 : l ≠ []) (h : ∀ x ∈ l, x < n) : ∃ m, maxI l = some m ∧ m < n := by
  cases l with
  | nil => exact absurd rfl h0
  | cons x r => exact ⟨_, rfl, fold_max_lt r x (h x (by simp)) fun y hy => h y (by simp [hy])⟩
theorem max1_N {rr : List Nat} {n : Nat} (h0 : rr ≠ []) (h : ∀ r ∈ rr, r < n) : ∃ m : Int, primS .max1 [.tuple (rr.map encN)] = some (.int m) ∧ m < n := by
  have hi : intsL (rr.map encN) = some (rr.map fun (r : Nat) => (r : Int)) := by
    have := intsL_map' (l := rr) (p := fun (r : Nat) => (r : Int))
    exact this
  obtain ⟨m, h1, h2⟩ := maxI_lt (n := n) (l := rr.map fun (r : Nat) => (r : Int)) (by simpa using h0) (by
    intro x hx; rw [List.mem_map] at hx; obtain ⟨r, hr, rfl⟩ := hx; have := h r hr; omega)
  refine ⟨m, ?_, h2⟩
  show ((items? (.tuple (rr.map encN))).bind intsL).bind (fun ns => (maxI ns).map PyData.int) = _
  rw [show items? (.tuple (rr.map encN)) = some (rr.map encN) from rfl]
  simp [hi, h1]
end RT
/-! heaps with takings: plain forms -/
namespace TK
open PySem G
def IsMex (l : List Nat) (v : Nat) : Prop := v ∉ l ∧ ∀ u, u < v → u ∈ l
def mexF (l : List Nat) : Nat → Nat → Nat
  | 0, v => v
  | n + 1, v => if l.contains v then mexF l n (v + 1) else v
def mexN (l : List Nat) : Nat := mexF l l.length 0
theorem mex_le {l : List Nat} {v : Nat} (h : ∀ u, u < v → u ∈ l) : v ≤ l.length := by
  have := AR.nodup_le (l := List.range v) (m := l) List.nodup_range fun x hx => h x (by simpa using hx)
  simpa using this
theorem mexF_is {l : List Nat} : ∀ (n v : Nat), n + v = l.length → (∀ u, u < v → u ∈ l) → IsMex l (mexF l n v)
  | 0, v, hn, h => by
    refine ⟨fun hv => ?_, h⟩
    have : v + 1 ≤ l.length := mex_le (v := v + 1) fun u hu => by
      by_cases e : u = v
      · rw [e]; exact hv
      · exact h u (by omega)
    omega
  | n + 1, v, hn, h => by
    rw [mexF]
    split
    · rename_i hc
      exact mexF_is n (v + 1) (by omega) fun u hu => by
        by_cases e : u = v
        · rw [e]; simpa using hc
        · exact h u (by omega)
    · rename_i hc
      exact ⟨by simpa using hc, h⟩
theorem mexN_is (l : List Nat) : IsMex l (mexN l) := mexF_is l.length 0 (by omega) fun u hu => by omega
theorem IsMex.uniq {l : List Nat} {a b : Nat} (ha : IsMex l a) (hb : IsMex l b) : a = b := by
  rcases Nat.lt_trichotomy a b with h | h | h
  · exact absurd (hb.2 a h) ha.1
  · exact h
  · exact absurd (ha.2 b h) hb.1
def joinN (l : List Nat) : Nat := l.foldl (fun a b => a ^^^ b) 0
def maxN (l : List Nat) : Nat := l.foldl max 0
/-- the numbers of the heaps below m -/
def addN (ts : List Nat) (f : List Nat) (h : Nat) : List Nat := f ++ [mexN ((ts.filter fun t => decide (t ≤ h)).map fun t => f.getD (h - t) 0)]
def numsN (ts : List Nat) (m : Nat) : List Nat := (List.range m).foldl (addN ts) []
theorem numsN_len {ts : List Nat} : ∀ m, (numsN ts m).length = m
  | 0 => rfl
  | m + 1 => by
    have := numsN_len (ts := ts) m
    unfold numsN at this ⊢
    rw [List.range_succ, List.foldl_append]
    simp [addN, this]
theorem numsN_succ {ts : List Nat} {m : Nat} : numsN ts (m + 1) = addN ts (numsN ts m) m := by
  unfold numsN; rw [List.range_succ, List.foldl_append]; rfl
theorem numsN_get {ts : List Nat} {h : Nat} : ∀ {m : Nat}, h < m → (numsN ts m).getD h 0 = (numsN ts (h + 1)).getD h 0
  | 0, hm => by omega
  | m + 1, hm => by
    by_cases e : h = m
    · rw [e]
    · rw [numsN_succ, addN]
      have hl : h < (numsN ts m).length := by rw [numsN_len]; omega
      rw [List.getD, List.getElem?_append_left hl, ← List.getD]
      exact numsN_get (by omega)
structure TOk (ts : List Nat) : Prop where
  pos : 1 ≤ ts.length
  le : ts.length ≤ 10
  all : ∀ t ∈ ts, 1 ≤ t ∧ t ≤ 60
  asc : (ts.zip (ts.drop 1)).all (fun p => decide (p.1 < p.2)) = true
structure HOk (hs : List Nat) : Prop where
  le : hs.length ≤ 12
  all : ∀ h ∈ hs, h ≤ 20000
theorem maxN_ge {l : List Nat} : ∀ x ∈ l, x ≤ maxN l := by
  have : ∀ (l : List Nat) (a : Nat), a ≤ l.foldl max a ∧ ∀ x ∈ l, x ≤ l.foldl max a := by
    intro l
    induction l with
    | nil => intro a; simp
    | cons y l ih =>
      intro a
      have := ih (max a y)
      refine ⟨by rw [List.foldl_cons]; omega, fun x hx => ?_⟩
      rw [List.foldl_cons]
      rw [List.mem_cons] at hx
      rcases hx with rfl | hx
      · omega
      · exact this.2 x hx
  exact (this l 0).2
theorem maxN_le {l : List Nat} {n : Nat} (h : ∀ x ∈ l, x ≤ n) : maxN l ≤ n := by
  have : ∀ (l : List Nat) (a : Nat), a ≤ n → (∀ x ∈ l, x ≤ n) → l.foldl max a ≤ n := by
    intro l
    induction l with
    | nil => intro a ha _; exact ha
    | cons y l ih =>
      intro a ha hl
      rw [List.foldl_cons]
      have := hl y (by simp)
      exact ih _ (by omega) fun x hx => hl x (by simp [hx])
  exact this l 0 (by omega) h
theorem max1_h {hs : List Nat} : primS .max1 [.tuple (hs.map encN ++ [.int 0])] = some (.int (maxN hs : Nat)) := by
  have hi : intsL (hs.map encN ++ [.int 0]) = some ((hs ++ [0]).map fun (r : Nat) => (r : Int)) := by
    have := intsL_map' (l := hs ++ [0]) (p := fun (r : Nat) => (r : Int))
    rw [← this]; simp; rfl
  have hf : ∀ (l : List Nat) (a : Nat), (l.map fun (r : Nat) => (r : Int)).foldl (fun m y => if y > m then y else m) (a : Int) = ((l.foldl max a : Nat) : Int) := by
    intro l
    induction l with
    | nil => intro a; rfl
    | cons y l ih =>
      intro a
      rw [List.map_cons, List.foldl_cons, List.foldl_cons, ← ih]
      congr 1
      split <;> omega
  have hm : maxI ((hs ++ [0]).map fun (r : Nat) => (r : Int)) = some ((maxN hs : Nat) : Int) := by
    cases hs with
    | nil => rfl
    | cons x r =>
      rw [List.cons_append, List.map_cons, maxI, hf, List.foldl_append, maxN, List.foldl_cons]
      congr 2
      show max (r.foldl max x) 0 = r.foldl max (max 0 x)
      rw [Nat.zero_max, Nat.max_zero]
  show ((items? (.tuple (hs.map encN ++ [.int 0]))).bind intsL).bind (fun ns => (maxI ns).map PyData.int) = _
  rw [show items? (.tuple (hs.map encN ++ [.int 0])) = some (hs.map encN ++ [.int 0]) from rfl]
  simp only [Option.bind_some, hi, hm, Option.map_some]
theorem xor_and_add : ∀ (a b : Nat), a + b = (a ^^^ b) + 2 * (a &&& b) := by
  intro a
  induction a using Nat.strongRecOn with
  | ind a ih =>
    intro b
    by_cases h : a = 0
    · subst h; simp
    · have := ih (a / 2) (by omega) (b / 2)
      have h1 : (a ^^^ b) / 2 = (a / 2) ^^^ (b / 2) := Nat.xor_div_two
      have h2 : (a &&& b) / 2 = (a / 2) &&& (b / 2) := Nat.and_div_two
      have h3 : (a ^^^ b) % 2 = (a % 2) ^^^ (b % 2) := Nat.xor_mod_two_pow (n := 1)
      have h4 : (a &&& b) % 2 = (a % 2) &&& (b % 2) := Nat.and_mod_two_pow (n := 1)
      rw [← h1, ← h2] at this
      have key : ∀ x y z w : Nat, x < 2 → y < 2 → z = x ^^^ y → w = x &&& y → x + y = z + 2 * w := by
        intro x y z w hx hy hz hw
        have hx' : x = 0 ∨ x = 1 := by omega
        have hy' : y = 0 ∨ y = 1 := by omega
        rcases hx' with rfl | rfl <;> rcases hy' with rfl | rfl <;> subst hz <;> subst hw <;> rfl
      have k := key (a % 2) (b % 2) _ _ (by omega) (by omega) h3 h4
      omega
theorem bitXor_nat (a b : Nat) : Builtin.bitXor (a : Int) (b : Int) = ((a ^^^ b : Nat) : Int) := by
  unfold Builtin.bitXor
  rw [PyProof.Rows.bitOr_and, PyProof.Rows.bitAnd_pp (by omega) (by omega)]
  have := xor_and_add a b
  simp only [Int.toNat_natCast]
  omega
def nimsOf (ts hs : List Nat) : List Nat := hs.map fun h => (numsN ts (maxN hs + 1)).getD h 0
def lostN (ts hs : List Nat) : Bool := joinN (nimsOf ts hs) == 0
def winAt (ts nums : List Nat) (whole : Nat) (acc : List (Nat × Nat)) (p : Nat × Nat) : List (Nat × Nat) :=
  acc ++ (ts.filter fun t => decide (t ≤ p.1) && nums.getD (p.1 - t) 0 == whole ^^^ nums.getD p.1 0).map fun t => (p.2, t)
def winsN (ts hs : List Nat) : List (Nat × Nat) := hs.zipIdx.foldl (winAt ts (numsN ts (maxN hs + 1)) (joinN (nimsOf ts hs))) []
end TK
/-! games of pairs, decoded -/
namespace RT
open PySem G AR
def decP : AV → Option (Nat × Nat)
  | .tuple [.int (.ofNat a), .int (.ofNat b)] => some (a, b)
  | _ => none
theorem decP_ok {v : AV} {p : Nat × Nat} (h : decP v = some p) : v = encP p := by
  unfold decP at h
  split at h
  · cases h; rfl
  · cases h
def decL : List AV → Option (List (Nat × Nat))
  | [] => some []
  | v :: r => match decP v, decL r with
    | some p, some ps => some (p :: ps)
    | _, _ => none
theorem decL_ok : ∀ {vs : List AV} {ps : List (Nat × Nat)}, decL vs = some ps → vs = ps.map encP
  | [], ps, h => by cases h; rfl
  | v :: r, ps, h => by
    rw [decL] at h
    split at h
    · rename_i p qs h1 h2
      cases h
      rw [decP_ok h1, decL_ok h2]; rfl
    · cases h
def decM : List (AV × AV) → Option (List ((Nat × Nat) × List (Nat × Nat)))
  | [] => some []
  | (k, .list vs) :: r => match decP k, decL vs, decM r with
    | some p, some ps, some t => some ((p, ps) :: t)
    | _, _, _ => none
  | _ => none
def outM (x : (Nat × Nat) × List (Nat × Nat)) : (Nat × Nat) × AV := (x.1, .list (x.2.map encP))
theorem decM_ok : ∀ {kvs : List (AV × AV)} {l : List ((Nat × Nat) × List (Nat × Nat))}, decM kvs = some l → kvs = (l.map outM).map (encK encP)
  | [], l, h => by cases h; rfl
  | (k, v) :: r, l, h => by
    cases v <;> try cases h
    rename_i vs
    rw [decM] at h
    split at h
    · rename_i p ps t h1 h2 h3
      cases h
      rw [decP_ok h1, decL_ok h2, decM_ok h3]; rfl
    · cases h
def decB : List (AV × AV) → Option (List ((Nat × Nat) × Bool))
  | [] => some []
  | (k, .bool b) :: r => match decP k, decB r with
    | some p, some t => some ((p, b) :: t)
    | _, _ => none
  | _ => none
def outB (x : (Nat × Nat) × Bool) : (Nat × Nat) × AV := (x.1, .bool x.2)
theorem decB_ok : ∀ {kvs : List (AV × AV)} {l : List ((Nat × Nat) × Bool)}, decB kvs = some l → kvs = (l.map outB).map (encK encP)
  | [], l, h => by cases h; rfl
  | (k, v) :: r, l, h => by
    cases v <;> try cases h
    rename_i vs
    rw [decB] at h
    split at h
    · rename_i p t h1 h3
      cases h
      rw [decP_ok h1, decB_ok h3]; rfl
    · cases h
def getP {β : Type} (z : β) (x : Nat × Nat) : List ((Nat × Nat) × β) → β
  | [] => z
  | (p, b) :: r => if p == x then b else getP z x r
theorem look_M {x : Nat × Nat} : ∀ {l : List ((Nat × Nat) × List (Nat × Nat))}, l.any (fun p => p.1 == x) = true → lookN x (l.map outM) = some (.list ((getP [] x l).map encP))
  | [], h => by simp at h
  | (p, ps) :: r, h => by
    rw [List.map_cons, outM, lookN, getP]
    by_cases hp : (p == x) = true
    · rw [if_pos hp, if_pos hp]
    · rw [if_neg hp, if_neg hp]
      exact look_M (by rw [List.any_cons] at h; simpa [hp] using h)
theorem look_B {x : Nat × Nat} : ∀ {l : List ((Nat × Nat) × Bool)}, l.any (fun p => p.1 == x) = true → lookN x (l.map outB) = some (.bool (getP false x l))
  | [], h => by simp at h
  | (p, ps) :: r, h => by
    rw [List.map_cons, outB, lookN, getP]
    by_cases hp : (p == x) = true
    · rw [if_pos hp, if_pos hp]
    · rw [if_neg hp, if_neg hp]
      exact look_B (by rw [List.any_cons] at h; simpa [hp] using h)
def codeP (p : Nat × Nat) : Int := (p.1 : Int) * 18446744073709551616 + p.2
def sortP (l : List (Nat × Nat)) : List (Nat × Nat) := sortK codeP l
theorem sset_P {l : List (Nat × Nat)} (h : l.length < 64) (hb : ∀ p ∈ l, p.1 < 4294967296 ∧ p.2 < 4294967296) : ssetS (l.map encP) = some (.list ((sortP l).map encP)) := by
  have ht : ∀ (l : List (Nat × Nat)), (∀ p ∈ l, p.1 < 4294967296 ∧ p.2 < 4294967296) → tupsI 2 (l.map encP) = some (l.map fun p => [(p.1 : Int), (p.2 : Int)]) := by
    intro l
    induction l with
    | nil => intro _; rfl
    | cons p r ih =>
      intro hb
      have := hb p (by simp)
      rw [List.map_cons, tupsI, ih fun q hq => hb q (by simp [hq])]
      have : tupI 2 (encP p) = some [(p.1 : Int), (p.2 : Int)] := by
        obtain ⟨a, b⟩ := p
        obtain ⟨h1, h2⟩ := this
        dsimp only at h1 h2
        have q : ∀ n : Nat, n < 4294967296 → (decide (0 ≤ (n : Int)) && decide ((n : Int) < 2 ^ 64)) = true := by
          intro n hn
          rw [Bool.and_eq_true, decide_eq_true_eq, decide_eq_true_eq]
          exact ⟨by omega, by omega⟩
        rw [encP, tupI, show intsL [.int (a : Int), .int (b : Int)] = some [(a : Int), (b : Int)] from rfl, Option.bind_some, if_pos]
        exact ⟨rfl, by rw [List.all_cons, List.all_cons, List.all_nil, q a h1, q b h2]; rfl⟩
      rw [this]
      rfl
  have hc : ∀ (l : List (Nat × Nat)), sortK codeI (l.map fun p => [(p.1 : Int), (p.2 : Int)]) = (sortP l).map fun p => [(p.1 : Int), (p.2 : Int)] := by
    have hcode : ∀ p : Nat × Nat, codeI [(p.1 : Int), (p.2 : Int)] = codeP p := by intro p; simp [codeI, codeP]
    have hi : ∀ (x : Nat × Nat) (l : List (Nat × Nat)), insK codeI [(x.1 : Int), (x.2 : Int)] (l.map fun p => [(p.1 : Int), (p.2 : Int)]) = (insK codeP x l).map fun p => [(p.1 : Int), (p.2 : Int)] := by
      intro x l
      induction l with
      | nil => rfl
      | cons y l ih =>
        simp only [List.map_cons, insK, hcode]
        split
        · rfl
        · split
          · rw [ih]; rfl
          · rfl
    intro l
    induction l with
    | nil => rfl
    | cons x r ih => rw [List.map_cons, sortK, ih, hi]; rfl
  unfold ssetS
  rw [if_pos (by simpa using h)]
  cases l with
  | nil => rfl
  | cons p r =>
    have h1 := ht (p :: r) hb
    rw [List.map_cons] at h1 ⊢
    unfold encP at h1 ⊢
    dsimp only
    rw [if_neg (by simp)]
    rw [show [PyData.int (p.1 : Int), PyData.int (p.2 : Int)].length = 2 from rfl]
    rw [h1]
    simp only [Option.map_some]
    rw [hc, List.map_map]
    rfl
end RT
/-! k88: all heaps of takings -/
namespace K88
open PySem G AR RT TK
def sortT (l : List Nat) : List Nat := sortK (fun n : Nat => (n : Int)) l
theorem sortK_cast : ∀ l : List Nat, sortK id (l.map fun (n : Nat) => (n : Int)) = (sortT l).map fun (n : Nat) => (n : Int)
  | [] => rfl
  | x :: r => by
    have hi : ∀ (x : Nat) (l : List Nat), insK id (x : Int) (l.map fun (n : Nat) => (n : Int)) = (insK (fun n : Nat => (n : Int)) x l).map fun (n : Nat) => (n : Int) := by
      intro x l
      induction l with
      | nil => rfl
      | cons y l ih =>
        simp only [List.map_cons, insK, id]
        split
        · rfl
        · split
          · rw [ih]; rfl
          · rfl
    rw [List.map_cons, sortK, sortK_cast r, hi]; rfl
theorem sset_N {l : List Nat} (h : l.length < 64) : ssetS (l.map encN) = some (.list ((sortT l).map encN)) := by
  have hi : intsL (l.map encN) = some (l.map fun (n : Nat) => (n : Int)) := intsL_map' (l := l) (p := fun (r : Nat) => (r : Int))
  unfold ssetS
  rw [if_pos (by simpa using h)]
  split
  · rename_i ys _ e
    cases l with
    | nil => simp at e
    | cons a r => simp [encN] at e
  · rw [hi]
    simp only [Option.map_some]
    rw [sortK_cast, List.map_map]
    rfl
theorem insK_mem {α : Type} {f : α → Int} {x z : α} : ∀ {l : List α}, z ∈ insK f x l → z = x ∨ z ∈ l
  | [], h => by simpa [insK] using h
  | y :: r, h => by
    unfold insK at h
    split at h
    · simpa using h
    · split at h
      · rw [List.mem_cons] at h
        rcases h with h | h
        · simp [h]
        · rcases insK_mem h with h | h <;> simp [h]
      · exact .inr h
theorem sortK_mem {α : Type} {f : α → Int} {z : α} : ∀ {l : List α}, z ∈ sortK f l → z ∈ l
  | [], h => h
  | y :: r, h => by
    rw [sortK] at h
    rcases insK_mem h with h | h
    · simp [h]
    · simp [sortK_mem h]
theorem insK_len {α : Type} {f : α → Int} {x : α} : ∀ {l : List α}, (insK f x l).length ≤ l.length + 1
  | [] => by simp [insK]
  | y :: r => by
    unfold insK
    split
    · simp
    · split
      · have := insK_len (f := f) (x := x) (l := r); simp; omega
      · simp
theorem sortK_len {α : Type} {f : α → Int} : ∀ {l : List α}, (sortK f l).length ≤ l.length
  | [] => by simp [sortK]
  | y :: r => by
    have h1 := insK_len (f := f) (x := y) (l := sortK f r)
    have h2 := sortK_len (f := f) (l := r)
    rw [sortK]; simp; omega
def lists : Nat → List (List Nat)
  | 0 => [[]]
  | m + 1 => (lists m).flatMap fun l => (List.range 6).map fun r => (1 + r) :: l
theorem mem_lists : ∀ {m : Nat} {l : List Nat}, l.length = m → (∀ x ∈ l, 1 ≤ x ∧ x ≤ 6) → l ∈ lists m
  | 0, l, h, _ => by simp [lists, List.eq_nil_of_length_eq_zero h]
  | m + 1, [], h, _ => by simp at h
  | m + 1, x :: l, h, hx => by
    rw [lists, List.mem_flatMap]
    refine ⟨l, mem_lists (by simpa using h) fun y hy => hx y (by simp [hy]), ?_⟩
    rw [List.mem_map]
    have := hx x (by simp)
    exact ⟨x - 1, by simp; omega, by congr 1; omega⟩
def subs : List Nat → List (List Nat)
  | [] => [[]]
  | x :: r => let s := subs r; s.map (x :: ·) ++ s
def T56 : List (List Nat) := (subs [1, 2, 3, 4, 5, 6]).filter fun l => !l.isEmpty && decide (l.length ≤ 4)
def tokB (ts : List Nat) : Bool := decide (1 ≤ ts.length) && decide (ts.length ≤ 10) && (ts.all fun t => decide (1 ≤ t) && decide (t ≤ 60)) && (ts.zip (ts.drop 1)).all fun p => decide (p.1 < p.2)
theorem tok_of {ts : List Nat} (h : tokB ts = true) : TOk ts := by
  unfold tokB at h
  simp only [Bool.and_eq_true, decide_eq_true_eq, List.all_eq_true] at h
  obtain ⟨⟨⟨a, b⟩, c⟩, d⟩ := h
  exact ⟨a, b, c, by rw [List.all_eq_true]; intro p hp; have := d p hp; simpa using this⟩
def mvT (ts : List Nat) (x : Nat) : List Nat := (ts.filter fun t => decide (t ≤ x)).map fun t => x - t
def smT (ts : List Nat) (x : Nat) : List Nat := sortT (mvT ts x)
def lostT (ts : List Nat) (x : Nat) : Bool := lostN ts [x]
def gameT (ts : List Nat) (h : Nat) : Bool := rightN (mvT ts) (smT ts) (lostT ts) h && winsN ts [h] == (ts.filter fun t => decide (t ≤ h) && lostT ts (h - t)).map fun t => (0, t)
theorem sorts_ok : ([1, 2, 3, 4].all fun m => (lists m).all fun l => T56.contains (sortT l)) = true := by decide +kernel
def partT (i : Nat) : Bool := ((T56.drop i).take 1).all fun ts => tokB ts && (List.range 12).all fun h => gameT ts h
theorem part0 : partT 0 = true := by decide +kernel
theorem part1 : partT 1 = true := by decide +kernel
theorem part2 : partT 2 = true := by decide +kernel
theorem part3 : partT 3 = true := by decide +kernel
theorem part4 : partT 4 = true := by decide +kernel
theorem part5 : partT 5 = true := by decide +kernel
theorem part6 : partT 6 = true := by decide +kernel
theorem part7 : partT 7 = true := by decide +kernel
theorem part8 : partT 8 = true := by decide +kernel
theorem part9 : partT 9 = true := by decide +kernel
theorem part10 : partT 10 = true := by decide +kernel
theorem part11 : partT 11 = true := by decide +kernel
theorem part12 : partT 12 = true := by decide +kernel
theorem part13 : partT 13 = true := by decide +kernel
theorem part14 : partT 14 = true := by decide +kernel
theorem part15 : partT 15 = true := by decide +kernel
theorem part16 : partT 16 = true := by decide +kernel
theorem part17 : partT 17 = true := by decide +kernel
theorem part18 : partT 18 = true := by decide +kernel
theorem part19 : partT 19 = true := by decide +kernel
theorem part20 : partT 20 = true := by decide +kernel
theorem part21 : partT 21 = true := by decide +kernel
theorem part22 : partT 22 = true := by decide +kernel
theorem part23 : partT 23 = true := by decide +kernel
theorem part24 : partT 24 = true := by decide +kernel
theorem part25 : partT 25 = true := by decide +kernel
theorem part26 : partT 26 = true := by decide +kernel
theorem part27 : partT 27 = true := by decide +kernel
theorem part28 : partT 28 = true := by decide +kernel
theorem part29 : partT 29 = true := by decide +kernel
theorem part30 : partT 30 = true := by decide +kernel
theorem part31 : partT 31 = true := by decide +kernel
theorem part32 : partT 32 = true := by decide +kernel
theorem part33 : partT 33 = true := by decide +kernel
theorem part34 : partT 34 = true := by decide +kernel
theorem part35 : partT 35 = true := by decide +kernel
theorem part36 : partT 36 = true := by decide +kernel
theorem part37 : partT 37 = true := by decide +kernel
theorem part38 : partT 38 = true := by decide +kernel
theorem part39 : partT 39 = true := by decide +kernel
theorem part40 : partT 40 = true := by decide +kernel
theorem part41 : partT 41 = true := by decide +kernel
theorem part42 : partT 42 = true := by decide +kernel
theorem part43 : partT 43 = true := by decide +kernel
theorem part44 : partT 44 = true := by decide +kernel
theorem part45 : partT 45 = true := by decide +kernel
theorem part46 : partT 46 = true := by decide +kernel
theorem part47 : partT 47 = true := by decide +kernel
theorem part48 : partT 48 = true := by decide +kernel
theorem part49 : partT 49 = true := by decide +kernel
theorem part50 : partT 50 = true := by decide +kernel
theorem part51 : partT 51 = true := by decide +kernel
theorem part52 : partT 52 = true := by decide +kernel
theorem part53 : partT 53 = true := by decide +kernel
theorem part54 : partT 54 = true := by decide +kernel
theorem part55 : partT 55 = true := by decide +kernel
theorem all_drop {α : Type} {p : α → Bool} {l : List α} (h1 : (l.take 1).all p = true) (h2 : (l.drop 1).all p = true) : l.all p = true := by
  rw [← List.take_append_drop 1 l, List.all_append, h1, h2]; rfl
theorem games_ok : (T56.all fun ts => tokB ts && (List.range 12).all fun h => gameT ts h) = true := by
  have e : ∀ i, partT i = true → (T56.drop (i + 1)).all (fun ts => tokB ts && (List.range 12).all fun h => gameT ts h) = true → (T56.drop i).all (fun ts => tokB ts && (List.range 12).all fun h => gameT ts h) = true := by
    intro i h1 h2
    exact all_drop h1 (by rw [List.drop_drop]; exact h2)
  have h : (T56.drop 56).all (fun ts => tokB ts && (List.range 12).all fun h => gameT ts h) = true := by
    rw [List.drop_of_length_le (by decide +kernel)]; rfl
  replace h := e 55 part55 h
  replace h := e 54 part54 h
  replace h := e 53 part53 h
  replace h := e 52 part52 h
  replace h := e 51 part51 h
  replace h := e 50 part50 h
  replace h := e 49 part49 h
  replace h := e 48 part48 h
  replace h := e 47 part47 h
  replace h := e 46 part46 h
  replace h := e 45 part45 h
  replace h := e 44 part44 h
  replace h := e 43 part43 h
  replace h := e 42 part42 h
  replace h := e 41 part41 h
  replace h := e 40 part40 h
  replace h := e 39 part39 h
  replace h := e 38 part38 h
  replace h := e 37 part37 h
  replace h := e 36 part36 h
  replace h := e 35 part35 h
  replace h := e 34 part34 h
  replace h := e 33 part33 h
  replace h := e 32 part32 h
  replace h := e 31 part31 h
  replace h := e 30 part30 h
  replace h := e 29 part29 h
  replace h := e 28 part28 h
  replace h := e 27 part27 h
  replace h := e 26 part26 h
  replace h := e 25 part25 h
  replace h := e 24 part24 h
  replace h := e 23 part23 h
  replace h := e 22 part22 h
  replace h := e 21 part21 h
  replace h := e 20 part20 h
  replace h := e 19 part19 h
  replace h := e 18 part18 h
  replace h := e 17 part17 h
  replace h := e 16 part16 h
  replace h := e 15 part15 h
  replace h := e 14 part14 h
  replace h := e 13 part13 h
  replace h := e 12 part12 h
  replace h := e 11 part11 h
  replace h := e 10 part10 h
  replace h := e 9 part9 h
  replace h := e 8 part8 h
  replace h := e 7 part7 h
  replace h := e 6 part6 h
  replace h := e 5 part5 h
  replace h := e 4 part4 h
  replace h := e 3 part3 h
  replace h := e 2 part2 h
  replace h := e 1 part1 h
  replace h := e 0 part0 h
  exact h
theorem T56_of {m : Nat} {l : List Nat} (h1 : 1 ≤ m) (h4 : m ≤ 4) (hl : l.length = m) (hx : ∀ x ∈ l, 1 ≤ x ∧ x ≤ 6) : sortT l ∈ T56 := by
  have := List.all_eq_true.mp (List.all_eq_true.mp sorts_ok m (by simp; omega)) l (mem_lists hl hx)
  simpa using this
theorem T56_tok {ts : List Nat} (h : ts ∈ T56) : TOk ts := by
  have := List.all_eq_true.mp games_ok ts h
  rw [Bool.and_eq_true] at this
  exact tok_of this.1
theorem T56_game {ts : List Nat} (h : ts ∈ T56) {x : Nat} (hx : x < 12) : gameT ts x = true := by
  have := List.all_eq_true.mp games_ok ts h
  rw [Bool.and_eq_true] at this
  exact List.all_eq_true.mp this.2 x (by simpa using hx)
theorem mvT_le {ts : List Nat} {x y : Nat} (h : y ∈ mvT ts x) : y ≤ x := by
  unfold mvT at h
  rw [List.mem_map] at h
  obtain ⟨t, _, rfl⟩ := h
  omega
theorem mvT_len {ts : List Nat} {x : Nat} : (mvT ts x).length ≤ ts.length := by
  unfold mvT; rw [List.length_map]; exact List.length_filter_le _ _
end K88
namespace K88
open PySem G AR RT
/-- a game of pairs, as it comes -/
def pairOk (l : List ((Nat × Nat) × List (Nat × Nat))) (b : List ((Nat × Nat) × Bool)) (s : Nat × Nat) : Bool :=
  (l.all fun x => decide (x.2.length < 60) && x.2.all fun y => decide (y.1 < 4294967296) && decide (y.2 < 4294967296) && l.any fun z => z.1 == y) &&
  (l.all fun x => b.any fun z => z.1 == x.1) && (l.any fun z => z.1 == s) &&
  rightN (fun x => getP [] x l) (fun x => getP [] x (l.map fun p => (p.1, sortP p.2))) (fun x => getP false x b) s
def acc46 : List Slot → Option (AV × List Slot)
  | [.val (.dict ((.none, .int 1) :: kvs)), .val s, .val (.dict ((.none, .int 1) :: bvs))] => match decM kvs, decP s, decB bvs with
    | some l, some p, some b => if pairOk l b p then some (.bool true, [.val (.dict ((.none, .int 1) :: kvs)), .val s, .val (.dict ((.none, .int 1) :: bvs))]) else none
    | _, _, _ => none
  | _ => none
theorem getP_sort {x : Nat × Nat} : ∀ {l : List ((Nat × Nat) × List (Nat × Nat))}, getP [] x (l.map fun p => (p.1, sortP p.2)) = sortP (getP [] x l)
  | [] => rfl
  | (p, ps) :: r => by
    rw [List.map_cons, getP, getP]
    split
    · rfl
    · exact getP_sort
theorem getP_mem {β : Type} {z : β} {x : Nat × Nat} : ∀ {l : List ((Nat × Nat) × β)}, l.any (fun p => p.1 == x) = true → (x, getP z x l) ∈ l
  | [], h => by simp at h
  | (p, ps) :: r, h => by
    rw [getP]
    by_cases hp : (p == x) = true
    · rw [if_pos hp]
      have : p = x := by simpa using hp
      simp [this]
    · rw [if_neg hp]
      rw [List.mem_cons]
      exact .inr (getP_mem (by rw [List.any_cons] at h; simpa [hp] using h))
end K88
namespace LK88
open PySem G
def f0 : Fn := ⟨3, 3, [], (.seq (.ret (.and (.prim (.isi .int) (.cons (.var 0) .nil)) (.and (.not (.prim (.isi .bool) (.cons (.var 0) .nil))) (.chain .le .le (.var 1) (.var 0) (.var 2))))) .skip)⟩
def f1 : Fn := ⟨3, 3, [], (.seq (.ife (.not (.call 0 (.cons (.var 0) (.cons (.var 1) (.cons (.var 2) .nil))))) (.seq .stuck .skip) .skip) .skip)⟩
def f2 : Fn := ⟨3, 3, [], (.seq (.ret (.and (.prim (.isi .tuple) (.cons (.var 0) .nil)) (.chain .le .le (.var 1) (.prim .len (.cons (.var 0) .nil)) (.var 2)))) .skip)⟩
def f3 : Fn := ⟨1, 3, [], (.seq (.ret (.prim .all (.cons (.comp .zip (.cons (.var 0) (.cons (.prim (.slice true false) (.cons (.var 0) (.cons (.cst (.int 1)) .nil))) .nil)) (.tp [1, 2]) .nil (.prim .lt (.cons (.var 1) (.cons (.var 2) .nil)))) .nil))) .skip)⟩
def f4 : Fn := ⟨4, 5, [], (.seq (.ret (.and (.call 2 (.cons (.var 0) (.cons (.var 1) (.cons (.var 1) .nil)))) (.prim .all (.cons (.comp .seq (.cons (.var 0) .nil) (.nm 4) .nil (.call 0 (.cons (.var 4) (.cons (.var 2) (.cons (.var 3) .nil))))) .nil)))) .skip)⟩
def f5 : Fn := ⟨1, 2, [], (.seq (.ife (.or (.not (.call 2 (.cons (.var 0) (.cons (.cst (.int 2)) (.cons (.cst (.int 2)) .nil))))) (.or (.not (.call 0 (.cons (.prim .ix (.cons (.var 0) (.cons (.cst (.int 0)) .nil))) (.cons (.cst (.int 1)) (.cons (.cst (.int 12)) .nil))))) (.not (.prim (.isi .tuple) (.cons (.prim .ix (.cons (.var 0) (.cons (.cst (.int 1)) .nil))) .nil))))) (.seq (.ret (.cst (.bool false))) .skip) .skip) (.seq (.ife (.not (.prim .all (.cons (.comp .seq (.cons (.prim .ix (.cons (.var 0) (.cons (.cst (.int 1)) .nil))) .nil) (.nm 1) .nil (.and (.call 4 (.cons (.var 1) (.cons (.cst (.int 2)) (.cons (.cst (.int 0)) (.cons (.prim .sub (.cons (.prim .ix (.cons (.var 0) (.cons (.cst (.int 0)) .nil))) (.cons (.cst (.int 1)) .nil))) .nil))))) (.prim .ne (.cons (.prim .ix (.cons (.var 1) (.cons (.cst (.int 0)) .nil))) (.cons (.prim .ix (.cons (.var 1) (.cons (.cst (.int 1)) .nil))) .nil))))) .nil))) (.seq (.ret (.cst (.bool false))) .skip) .skip) (.seq (.ret (.call 3 (.cons (.prim .ix (.cons (.var 0) (.cons (.cst (.int 1)) .nil))) .nil))) .skip)))⟩
def f6 : Fn := ⟨1, 1, [], (.seq (.ife (.not (.call 5 (.cons (.var 0) .nil))) (.seq .stuck .skip) .skip) .skip)⟩
def f7 : Fn := ⟨1, 4, [], (.seq (.ret (.comp .rng1 (.cons (.prim .ix (.cons (.var 0) (.cons (.cst (.int 0)) .nil))) .nil) (.nm 1) .nil (.comp .seq (.cons (.prim .ix (.cons (.var 0) (.cons (.cst (.int 1)) .nil))) .nil) (.tp [2, 3]) (.cons (.prim .eq (.cons (.var 2) (.cons (.var 1) .nil))) .nil) (.var 3)))) .skip)⟩
def f8 : Fn := ⟨1, 11, [], (.seq (.par [(1, false), (2, false)] (.cons (.call 7 (.cons (.var 0) .nil)) (.cons (.prim .mul (.cons (.disp (.cons (.cst .none) .nil)) (.cons (.prim .ix (.cons (.var 0) (.cons (.cst (.int 0)) .nil))) .nil))) .nil))) (.seq (.for_ .rng1 (.cons (.prim .ix (.cons (.var 0) (.cons (.cst (.int 0)) .nil))) .nil) (.nm 3) (.seq (.own 4 (.prim .lstOf (.cons (.var 2) .nil))) (.seq (.for_ .enum (.cons (.var 1) .nil) (.tp [5, 6]) (.seq (.asg (.nm 7) (.comp .seq (.cons (.var 6) .nil) (.nm 9) .nil (.prim .ix (.cons (.var 2) (.cons (.var 9) .nil))))) (.seq (.ife (.prim .eq (.cons (.prim .mod (.cons (.var 3) (.cons (.cst (.int 2)) .nil))) (.cons (.cst (.int 1)) .nil))) (.seq (.asg (.nm 8) (.prim .isin (.cons (.prim .sub (.cons (.var 3) (.cons (.cst (.int 1)) .nil))) (.cons (.var 7) .nil)))) .skip) (.seq (.asg (.nm 8) (.prim .all (.cons (.comp .seq (.cons (.var 7) .nil) (.nm 10) .nil (.and (.prim .notN (.cons (.var 10) .nil)) (.prim .eq (.cons (.prim .mod (.cons (.var 10) (.cons (.cst (.int 2)) .nil))) (.cons (.cst (.int 1)) .nil))))) .nil))) .skip)) (.seq (.ife (.and (.prim .isN (.cons (.prim .ix (.cons (.var 2) (.cons (.var 5) .nil))) .nil)) (.var 8)) (.seq (.put 4 (.var 5) (.var 3)) .skip) .skip) .skip)))) (.seq (.asg (.nm 2) (.var 4)) .skip)))) (.seq (.ret (.var 2)) .skip)))⟩
def f9 : Fn := ⟨1, 1, [], (.seq (.ife (.prim .isN (.cons (.var 0) .nil)) (.seq (.ret (.cst (.str ⟨#[111, 112, 101, 110]⟩))) .skip) .skip) (.seq (.ret (.ife (.prim .eq (.cons (.prim .mod (.cons (.var 0) (.cons (.cst (.int 2)) .nil))) (.cons (.cst (.int 1)) .nil))) (.cst (.str ⟨#[119, 111, 110]⟩)) (.cst (.str ⟨#[108, 111, 115, 116]⟩)))) .skip))⟩
def f10 : Fn := ⟨2, 3, [], (.seq (.ife (.prim .isN (.cons (.var 0) .nil)) (.seq (.ret (.and (.prim .isin (.cons (.cst .none) (.cons (.var 1) .nil))) (.prim .all (.cons (.comp .seq (.cons (.var 1) .nil) (.nm 2) .nil (.or (.prim .isN (.cons (.var 2) .nil)) (.prim .eq (.cons (.prim .mod (.cons (.var 2) (.cons (.cst (.int 2)) .nil))) (.cons (.cst (.int 1)) .nil))))) .nil)))) .skip) .skip) (.seq (.ife (.prim .eq (.cons (.prim .mod (.cons (.var 0) (.cons (.cst (.int 2)) .nil))) (.cons (.cst (.int 1)) .nil))) (.seq (.ret (.prim .any (.cons (.comp .seq (.cons (.var 1) .nil) (.nm 2) .nil (.and (.prim .notN (.cons (.var 2) .nil)) (.and (.prim .eq (.cons (.prim .mod (.cons (.var 2) (.cons (.cst (.int 2)) .nil))) (.cons (.cst (.int 0)) .nil))) (.prim .lt (.cons (.var 2) (.cons (.var 0) .nil)))))) .nil))) .skip) .skip) (.seq (.ret (.prim .all (.cons (.comp .seq (.cons (.var 1) .nil) (.nm 2) .nil (.and (.prim .notN (.cons (.var 2) .nil)) (.and (.prim .eq (.cons (.prim .mod (.cons (.var 2) (.cons (.cst (.int 2)) .nil))) (.cons (.cst (.int 1)) .nil))) (.prim .lt (.cons (.var 2) (.cons (.var 0) .nil)))))) .nil))) .skip)))⟩
def f11 : Fn := ⟨1, 1, [], (.seq (.ret (.call 5 (.cons (.var 0) .nil))) .skip)⟩
def f12 : Fn := ⟨2, 2, [], (.seq (.exp (.call 6 (.cons (.var 0) .nil))) (.seq (.ife (.not (.call 0 (.cons (.var 1) (.cons (.cst (.int 0)) (.cons (.prim .sub (.cons (.prim .ix (.cons (.var 0) (.cons (.cst (.int 0)) .nil))) (.cons (.cst (.int 1)) .nil))) .nil))))) (.seq .stuck .skip) .skip) (.seq (.ret (.call 9 (.cons (.prim .ix (.cons (.call 8 (.cons (.var 0) .nil)) (.cons (.var 1) .nil))) .nil))) .skip)))⟩
def f13 : Fn := ⟨1, 1, [], (.seq (.exp (.call 6 (.cons (.var 0) .nil))) (.seq (.ret (.prim .tupOf (.cons (.call 8 (.cons (.var 0) .nil)) .nil))) .skip))⟩
def f14 : Fn := ⟨2, 5, [], (.seq (.exp (.call 6 (.cons (.var 0) .nil))) (.seq (.ife (.not (.call 2 (.cons (.var 1) (.cons (.prim .ix (.cons (.var 0) (.cons (.cst (.int 0)) .nil))) (.cons (.prim .ix (.cons (.var 0) (.cons (.cst (.int 0)) .nil))) .nil))))) (.seq (.ret (.cst (.bool false))) .skip) .skip) (.seq (.ife (.not (.prim .all (.cons (.comp .seq (.cons (.var 1) .nil) (.nm 2) .nil (.or (.prim .isN (.cons (.var 2) .nil)) (.call 0 (.cons (.var 2) (.cons (.cst (.int 0)) (.cons (.cst (.int 1000)) .nil)))))) .nil))) (.seq (.ret (.cst (.bool false))) .skip) .skip) (.seq (.ret (.prim .all (.cons (.comp .zip (.cons (.var 1) (.cons (.call 7 (.cons (.var 0) .nil)) .nil)) (.tp [2, 3]) .nil (.call 10 (.cons (.var 2) (.cons (.comp .seq (.cons (.var 3) .nil) (.nm 4) .nil (.prim .ix (.cons (.var 1) (.cons (.var 4) .nil)))) .nil)))) .nil))) .skip))))⟩
def f15 : Fn := ⟨1, 3, [], (.seq (.asg (.nm 1) (.cst (.int 0))) (.seq (.for_ .seq (.cons (.var 0) .nil) (.nm 2) (.seq (.asg (.nm 1) (.prim .xor (.cons (.var 1) (.cons (.var 2) .nil)))) .skip)) (.seq (.ret (.var 1)) .skip)))⟩
def f16 : Fn := ⟨1, 4, [], (.seq (.par [(1, false), (2, false)] (.cons (.prim .dictP (.cons (.comp .seq (.cons (.var 0) .nil) (.nm 3) .nil (.prim .mkTup (.cons (.var 3) (.cons (.cst (.bool true)) .nil)))) .nil)) (.cons (.cst (.int 0)) .nil))) (.seq (.whl (.prim .isin (.cons (.var 2) (.cons (.var 1) .nil))) (.seq (.asg (.nm 2) (.prim .add (.cons (.var 2) (.cons (.cst (.int 1)) .nil)))) .skip)) (.seq (.ret (.var 2)) .skip)))⟩
def f17 : Fn := ⟨1, 2, [], (.seq (.ife (.or (.not (.call 2 (.cons (.var 0) (.cons (.cst (.int 1)) (.cons (.cst (.int 10)) .nil))))) (.not (.prim .all (.cons (.comp .seq (.cons (.var 0) .nil) (.nm 1) .nil (.call 0 (.cons (.var 1) (.cons (.cst (.int 1)) (.cons (.cst (.int 60)) .nil))))) .nil)))) (.seq (.ret (.cst (.bool false))) .skip) .skip) (.seq (.ret (.call 3 (.cons (.var 0) .nil))) .skip))⟩
def f18 : Fn := ⟨1, 1, [], (.seq (.ife (.not (.call 17 (.cons (.var 0) .nil))) (.seq .stuck .skip) .skip) .skip)⟩
def f19 : Fn := ⟨2, 3, [], (.seq (.ife (.or (.not (.call 2 (.cons (.var 0) (.cons (.cst (.int 0)) (.cons (.cst (.int 12)) .nil))))) (.not (.prim .all (.cons (.comp .seq (.cons (.var 0) .nil) (.nm 2) .nil (.call 0 (.cons (.var 2) (.cons (.cst (.int 0)) (.cons (.var 1) .nil))))) .nil)))) (.seq .stuck .skip) .skip) .skip)⟩
def f20 : Fn := ⟨2, 5, [], (.seq (.own 2 (.disp .nil)) (.seq (.for_ .rng1 (.cons (.prim .add (.cons (.var 1) (.cons (.cst (.int 1)) .nil))) .nil) (.nm 3) (.seq (.app 2 (.call 16 (.cons (.comp .seq (.cons (.var 0) .nil) (.nm 4) (.cons (.prim .le (.cons (.var 4) (.cons (.var 3) .nil))) .nil) (.prim .ix (.pk 2 (.cons (.prim .sub (.cons (.var 3) (.cons (.var 4) .nil))) .nil)))) .nil))) .skip)) (.seq (.ret (.var 2)) .skip)))⟩
def f21 : Fn := ⟨2, 4, [], (.seq (.asg (.nm 2) (.call 20 (.cons (.var 0) (.cons (.prim .max1 (.cons (.prim .add (.cons (.var 1) (.cons (.prim .mkTup (.cons (.cst (.int 0)) .nil)) .nil))) .nil)) .nil)))) (.seq (.ret (.comp .seq (.cons (.var 1) .nil) (.nm 3) .nil (.prim .ix (.cons (.var 2) (.cons (.var 3) .nil))))) .skip))⟩
def f22 : Fn := ⟨2, 2, [], (.seq (.exp (.call 18 (.cons (.var 0) .nil))) (.seq (.exp (.call 19 (.cons (.var 1) (.cons (.cst (.int 20000)) .nil)))) (.seq (.ret (.prim .eq (.cons (.call 15 (.cons (.call 21 (.cons (.var 0) (.cons (.var 1) .nil))) .nil)) (.cons (.cst (.int 0)) .nil)))) .skip)))⟩
def f23 : Fn := ⟨2, 9, [], (.seq (.exp (.call 18 (.cons (.var 0) .nil))) (.seq (.exp (.call 19 (.cons (.var 1) (.cons (.cst (.int 20000)) .nil)))) (.seq (.asg (.nm 2) (.call 20 (.cons (.var 0) (.cons (.prim .max1 (.cons (.prim .add (.cons (.var 1) (.cons (.prim .mkTup (.cons (.cst (.int 0)) .nil)) .nil))) .nil)) .nil)))) (.seq (.par [(4, false), (5, false)] (.cons (.call 15 (.cons (.comp .seq (.cons (.var 1) .nil) (.nm 3) .nil (.prim .ix (.cons (.var 2) (.cons (.var 3) .nil)))) .nil)) (.cons (.disp .nil) .nil))) (.seq (.for_ .enum (.cons (.var 1) .nil) (.tp [6, 3]) (.seq (.asg (.nm 7) (.prim .xor (.cons (.var 4) (.cons (.prim .ix (.cons (.var 2) (.cons (.var 3) .nil))) .nil)))) (.seq (.asg (.nm 5) (.prim .add (.cons (.var 5) (.cons (.comp .seq (.cons (.var 0) .nil) (.nm 8) (.cons (.and (.prim .le (.cons (.var 8) (.cons (.var 3) .nil))) (.prim .eq (.cons (.prim .ix (.cons (.var 2) (.cons (.prim .sub (.cons (.var 3) (.cons (.var 8) .nil))) .nil))) (.cons (.var 7) .nil)))) .nil) (.prim .mkTup (.cons (.var 6) (.cons (.var 8) .nil)))) .nil)))) .skip))) (.seq (.ret (.prim .tupOf (.cons (.var 5) .nil))) .skip))))))⟩
def f24 : Fn := ⟨1, 4, [], (.seq (.par [(1, false), (2, false)] (.cons (.cst (.int 0)) (.cons (.cst (.int 1)) .nil))) (.seq (.whl (.prim .le (.cons (.prim .mul (.cons (.var 2) (.cons (.var 2) .nil))) (.cons (.var 0) .nil))) (.seq (.asg (.nm 2) (.prim .mul (.cons (.var 2) (.cons (.cst (.int 2)) .nil)))) .skip)) (.seq (.whl (.prim .gt (.cons (.prim .sub (.cons (.var 2) (.cons (.var 1) .nil))) (.cons (.cst (.int 1)) .nil))) (.seq (.asg (.nm 3) (.prim .fdiv (.cons (.prim .add (.cons (.var 1) (.cons (.var 2) .nil))) (.cons (.cst (.int 2)) .nil)))) (.seq (.asg (.tp [1, 2]) (.ife (.prim .le (.cons (.prim .mul (.cons (.var 3) (.cons (.var 3) .nil))) (.cons (.var 0) .nil))) (.prim .mkTup (.cons (.var 3) (.cons (.var 2) .nil))) (.prim .mkTup (.cons (.var 1) (.cons (.var 3) .nil))))) .skip))) (.seq (.ret (.var 1)) .skip))))⟩
def f25 : Fn := ⟨1, 1, [], (.seq (.ret (.prim .fdiv (.cons (.prim .add (.cons (.var 0) (.cons (.call 24 (.cons (.prim .mul (.cons (.prim .mul (.cons (.cst (.int 5)) (.cons (.var 0) .nil))) (.cons (.var 0) .nil))) .nil)) .nil))) (.cons (.cst (.int 2)) .nil)))) .skip)⟩
def f26 : Fn := ⟨2, 2, [], (.seq (.ret (.prim .eq (.cons (.prim .min2 (.cons (.var 0) (.cons (.var 1) .nil))) (.cons (.call 25 (.cons (.prim .abs (.cons (.prim .sub (.cons (.var 0) (.cons (.var 1) .nil))) .nil)) .nil)) .nil)))) .skip)⟩
def f27 : Fn := ⟨1, 3, [], (.seq (.asg (.nm 1) (.call 24 (.cons (.prim .mul (.cons (.prim .mul (.cons (.cst (.int 5)) (.cons (.var 0) .nil))) (.cons (.var 0) .nil))) .nil))) (.seq (.for_ .rng2 (.cons (.prim .max2 (.cons (.prim .sub (.cons (.prim .fdiv (.cons (.prim .sub (.cons (.var 1) (.cons (.var 0) .nil))) (.cons (.cst (.int 2)) .nil))) (.cons (.cst (.int 1)) .nil))) (.cons (.cst (.int 0)) .nil))) (.cons (.prim .add (.cons (.prim .fdiv (.cons (.prim .sub (.cons (.var 1) (.cons (.var 0) .nil))) (.cons (.cst (.int 2)) .nil))) (.cons (.cst (.int 3)) .nil))) .nil)) (.nm 2) (.seq (.ife (.prim .eq (.cons (.call 25 (.cons (.var 2) .nil)) (.cons (.var 0) .nil))) (.seq (.ret (.prim .add (.cons (.var 0) (.cons (.var 2) .nil)))) .skip) .skip) .skip)) (.seq (.for_ .rng2 (.cons (.prim .max2 (.cons (.prim .sub (.cons (.prim .fdiv (.cons (.prim .sub (.cons (.prim .mul (.cons (.cst (.int 3)) (.cons (.var 0) .nil))) (.cons (.var 1) .nil))) (.cons (.cst (.int 2)) .nil))) (.cons (.cst (.int 2)) .nil))) (.cons (.cst (.int 0)) .nil))) (.cons (.prim .add (.cons (.prim .fdiv (.cons (.prim .sub (.cons (.prim .mul (.cons (.cst (.int 3)) (.cons (.var 0) .nil))) (.cons (.var 1) .nil))) (.cons (.cst (.int 2)) .nil))) (.cons (.cst (.int 3)) .nil))) .nil)) (.nm 2) (.seq (.ife (.prim .eq (.cons (.prim .add (.cons (.call 25 (.cons (.var 2) .nil)) (.cons (.var 2) .nil))) (.cons (.var 0) .nil))) (.seq (.ret (.prim .sub (.cons (.var 0) (.cons (.var 2) .nil)))) .skip) .skip) .skip)) (.seq (.ret (.var 0)) .skip))))⟩
def f28 : Fn := ⟨2, 2, [], (.seq (.exp (.call 1 (.cons (.var 0) (.cons (.cst (.int 0)) (.cons (.cst (.int 1000000000000000000)) .nil))))) (.seq (.exp (.call 1 (.cons (.var 1) (.cons (.cst (.int 0)) (.cons (.cst (.int 1000000000000000000)) .nil))))) .skip))⟩
def f29 : Fn := ⟨2, 2, [], (.seq (.exp (.call 28 (.cons (.var 0) (.cons (.var 1) .nil)))) (.seq (.ret (.call 26 (.cons (.var 0) (.cons (.var 1) .nil)))) .skip))⟩
def f30 : Fn := ⟨2, 3, [], (.seq (.exp (.call 28 (.cons (.var 0) (.cons (.var 1) .nil)))) (.seq (.ife (.call 26 (.cons (.var 0) (.cons (.var 1) .nil))) (.seq (.ret (.cst .none)) .skip) .skip) (.seq (.asg (.nm 2) (.prim .sub (.cons (.prim .min2 (.cons (.var 0) (.cons (.var 1) .nil))) (.cons (.call 25 (.cons (.prim .abs (.cons (.prim .sub (.cons (.var 0) (.cons (.var 1) .nil))) .nil)) .nil)) .nil)))) (.seq (.ife (.prim .gt (.cons (.var 2) (.cons (.cst (.int 0)) .nil))) (.seq (.ret (.prim .mkTup (.cons (.var 2) (.cons (.var 2) .nil)))) .skip) .skip) (.seq (.ret (.ife (.prim .lt (.cons (.var 0) (.cons (.var 1) .nil))) (.prim .mkTup (.cons (.cst (.int 0)) (.cons (.prim .sub (.cons (.var 1) (.cons (.call 27 (.cons (.var 0) .nil)) .nil))) .nil))) (.prim .mkTup (.cons (.prim .sub (.cons (.var 0) (.cons (.call 27 (.cons (.var 1) .nil)) .nil))) (.cons (.cst (.int 0)) .nil))))) .skip)))))⟩
def f31 : Fn := ⟨3, 5, [], (.seq (.exp (.call 28 (.cons (.var 0) (.cons (.var 1) .nil)))) (.seq (.ife (.or (.not (.call 2 (.cons (.var 2) (.cons (.cst (.int 2)) (.cons (.cst (.int 2)) .nil))))) (.or (.not (.call 0 (.cons (.prim .ix (.cons (.var 2) (.cons (.cst (.int 0)) .nil))) (.cons (.cst (.int 0)) (.cons (.var 0) .nil))))) (.not (.call 0 (.cons (.prim .ix (.cons (.var 2) (.cons (.cst (.int 1)) .nil))) (.cons (.cst (.int 0)) (.cons (.var 1) .nil))))))) (.seq (.ret (.cst (.bool false))) .skip) .skip) (.seq (.asg (.tp [3, 4]) (.var 2)) (.seq (.ife (.or (.prim .eq (.cons (.prim .add (.cons (.var 3) (.cons (.var 4) .nil))) (.cons (.cst (.int 0)) .nil))) (.and (.prim .gt (.cons (.var 3) (.cons (.cst (.int 0)) .nil))) (.and (.prim .gt (.cons (.var 4) (.cons (.cst (.int 0)) .nil))) (.prim .ne (.cons (.var 3) (.cons (.var 4) .nil)))))) (.seq (.ret (.cst (.bool false))) .skip) .skip) (.seq (.ret (.call 26 (.cons (.prim .sub (.cons (.var 0) (.cons (.var 3) .nil))) (.cons (.prim .sub (.cons (.var 1) (.cons (.var 4) .nil))) .nil)))) .skip)))))⟩
def f32 : Fn := ⟨1, 4, [], (.seq (.par [(1, true), (2, true)] (.cons (.disp (.cons (.cst (.int 1)) (.cons (.cst (.int 2)) .nil))) (.cons (.disp .nil) .nil))) (.seq (.whl (.prim .le (.cons (.prim .ix (.pk 1 (.cons (.prim .neg (.cons (.cst (.int 1)) .nil)) .nil))) (.cons (.var 0) .nil))) (.seq (.app 1 (.prim .add (.cons (.prim .ix (.pk 1 (.cons (.prim .neg (.cons (.cst (.int 1)) .nil)) .nil))) (.cons (.prim .ix (.pk 1 (.cons (.prim .neg (.cons (.cst (.int 2)) .nil)) .nil))) .nil)))) .skip)) (.seq (.for_ .seq (.cons (.prim .rev (.pk 1 .nil)) .nil) (.nm 3) (.seq (.ife (.prim .le (.cons (.var 3) (.cons (.var 0) .nil))) (.seq (.app 2 (.var 3)) (.seq (.asg (.nm 0) (.prim .sub (.cons (.var 0) (.cons (.var 3) .nil)))) .skip)) .skip) .skip)) (.seq (.ret (.var 2)) .skip))))⟩
def f33 : Fn := ⟨2, 6, [], (.seq (.par [(2, false), (3, true), (4, false)] (.cons (.call 32 (.cons (.var 0) .nil)) (.cons (.disp .nil) (.cons (.cst (.int 0)) .nil)))) (.seq (.for_ .rng3 (.cons (.prim .sub (.cons (.prim .len (.cons (.var 2) .nil)) (.cons (.cst (.int 1)) .nil))) (.cons (.prim .neg (.cons (.cst (.int 1)) .nil)) (.cons (.prim .neg (.cons (.cst (.int 1)) .nil)) .nil))) (.nm 5) (.seq (.asg (.nm 4) (.prim .add (.cons (.var 4) (.cons (.prim .ix (.cons (.var 2) (.cons (.var 5) .nil))) .nil)))) (.seq (.ife (.and (.prim .le (.cons (.var 4) (.cons (.var 1) .nil))) (.or (.prim .eq (.cons (.var 5) (.cons (.cst (.int 0)) .nil))) (.prim .gt (.cons (.prim .ix (.cons (.var 2) (.cons (.prim .sub (.cons (.var 5) (.cons (.cst (.int 1)) .nil))) .nil))) (.cons (.prim .mul (.cons (.cst (.int 2)) (.cons (.var 4) .nil))) .nil))))) (.seq (.app 3 (.var 4)) .skip) .skip) .skip))) (.seq (.ret (.var 3)) .skip)))⟩
def f34 : Fn := ⟨2, 2, [], (.seq (.exp (.call 1 (.cons (.var 0) (.cons (.cst (.int 0)) (.cons (.cst (.int 1000000000000000000)) .nil))))) (.seq (.exp (.call 1 (.cons (.var 1) (.cons (.cst (.int 0)) (.cons (.cst (.int 1000000000000000000)) .nil))))) .skip))⟩
def f35 : Fn := ⟨2, 2, [], (.seq (.exp (.call 34 (.cons (.var 0) (.cons (.var 1) .nil)))) (.seq (.ret (.or (.prim .eq (.cons (.var 0) (.cons (.cst (.int 0)) .nil))) (.prim .gt (.cons (.prim .ix (.cons (.call 32 (.cons (.var 0) .nil)) (.cons (.prim .neg (.cons (.cst (.int 1)) .nil)) .nil))) (.cons (.var 1) .nil))))) .skip))⟩
def f36 : Fn := ⟨2, 2, [], (.seq (.exp (.call 34 (.cons (.var 0) (.cons (.var 1) .nil)))) (.seq (.ret (.prim .tupOf (.cons (.call 33 (.cons (.var 0) (.cons (.var 1) .nil))) .nil))) .skip))⟩
def f37 : Fn := ⟨2, 2, [], (.seq (.par [(0, false), (1, false)] (.cons (.prim .max2 (.cons (.var 0) (.cons (.var 1) .nil))) (.cons (.prim .min2 (.cons (.var 0) (.cons (.var 1) .nil))) .nil))) (.seq (.ret (.or (.prim .eq (.cons (.var 1) (.cons (.cst (.int 0)) .nil))) (.and (.prim .ne (.cons (.prim .mod (.cons (.var 0) (.cons (.var 1) .nil))) (.cons (.cst (.int 0)) .nil))) (.prim .lt (.cons (.prim .mul (.cons (.var 0) (.cons (.var 0) .nil))) (.cons (.prim .add (.cons (.prim .mul (.cons (.var 0) (.cons (.var 1) .nil))) (.cons (.prim .mul (.cons (.var 1) (.cons (.var 1) .nil))) .nil))) .nil)))))) .skip))⟩
def f38 : Fn := ⟨2, 2, [], (.seq (.exp (.call 1 (.cons (.var 0) (.cons (.cst (.int 0)) (.cons (.cst (.int 1000000000000000000)) .nil))))) (.seq (.exp (.call 1 (.cons (.var 1) (.cons (.cst (.int 0)) (.cons (.cst (.int 1000000000000000000)) .nil))))) .skip))⟩
def f39 : Fn := ⟨2, 2, [], (.seq (.exp (.call 38 (.cons (.var 0) (.cons (.var 1) .nil)))) (.seq (.ret (.call 37 (.cons (.var 0) (.cons (.var 1) .nil)))) .skip))⟩
def f40 : Fn := ⟨2, 4, [], (.seq (.exp (.call 38 (.cons (.var 0) (.cons (.var 1) .nil)))) (.seq (.par [(0, false), (1, false)] (.cons (.prim .max2 (.cons (.var 0) (.cons (.var 1) .nil))) (.cons (.prim .min2 (.cons (.var 0) (.cons (.var 1) .nil))) .nil))) (.seq (.ife (.prim .eq (.cons (.var 1) (.cons (.cst (.int 0)) .nil))) (.seq (.ret (.prim .mkTup .nil)) .skip) .skip) (.seq (.asg (.nm 2) (.prim .fdiv (.cons (.var 0) (.cons (.var 1) .nil)))) (.seq (.ret (.prim .tupOf (.cons (.comp .seq (.cons (.prim .mkTup (.cons (.prim .sub (.cons (.var 2) (.cons (.cst (.int 1)) .nil))) (.cons (.var 2) .nil))) .nil) (.nm 3) (.cons (.and (.prim .gt (.cons (.var 3) (.cons (.cst (.int 0)) .nil))) (.call 37 (.cons (.prim .sub (.cons (.var 0) (.cons (.prim .mul (.cons (.var 3) (.cons (.var 1) .nil))) .nil))) (.cons (.var 1) .nil)))) .nil) (.var 3)) .nil))) .skip)))))⟩
def f41 : Fn := ⟨1, 2, [], (.seq (.asg (.nm 1) (.prim .abs (.cons (.prim .ix (.cons (.prim .add (.cons (.prim .lstOf (.cons (.var 0) .nil)) (.cons (.disp (.cons (.cst (.int 0)) .nil)) .nil))) (.cons (.cst (.int 0)) .nil))) .nil))) (.seq (.ret (.disp (.cons (.ife (.prim .ge (.cons (.var 1) (.cons (.prim .pow (.cons (.cst (.int 10)) (.cons (.cst (.int 18)) .nil))) .nil))) (.prim .fdiv (.cons (.var 1) (.cons (.cst (.int 113)) .nil))) (.cst (.int 0))) (.cons (.prim .add (.cons (.prim .mod (.cons (.prim .int1 (.cons (.prim .add (.cons (.prim .mul (.cons (.var 1) (.cons (.cst (.int 367)) .nil))) (.cons (.cst (.int 5303)) .nil))) .nil)) (.cons (.cst (.int 1984129399)) .nil))) (.cons (.cst (.int 227)) .nil))) .nil)))) .skip))⟩
def f42 : Fn := ⟨2, 4, [0], (.seq (.ife (.prim .gt (.cons (.prim .ix (.pk 0 (.cons (.cst (.int 0)) .nil))) (.cons (.cst (.int 0)) .nil))) (.seq (.asg (.nm 2) (.prim .mod (.cons (.prim .int1 (.cons (.prim .ix (.pk 0 (.cons (.cst (.int 0)) .nil))) .nil)) (.cons (.var 1) .nil)))) (.seq (.put 0 (.cst (.int 0)) (.prim .fdiv (.cons (.prim .ix (.pk 0 (.cons (.cst (.int 0)) .nil))) (.cons (.var 1) .nil)))) (.seq (.ret (.var 2)) .skip))) .skip) (.seq (.put 0 (.cst (.int 1)) (.prim .mod (.cons (.prim .int1 (.cons (.prim .add (.cons (.prim .mul (.cons (.prim .ix (.pk 0 (.cons (.cst (.int 1)) .nil))) (.cons (.cst (.int 30011)) .nil))) (.cons (.cst (.int 9001)) .nil))) .nil)) (.cons (.cst (.int 2147483543)) .nil)))) (.seq (.asg (.nm 3) (.prim .mod (.cons (.prim .int1 (.cons (.prim .mul (.cons (.prim .ix (.pk 0 (.cons (.cst (.int 1)) .nil))) (.cons (.prim .add (.cons (.prim .ix (.pk 0 (.cons (.cst (.int 1)) .nil))) (.cons (.cst (.int 293)) .nil))) .nil))) .nil)) (.cons (.cst (.int 2147483587)) .nil)))) (.seq (.ret (.prim .mod (.cons (.prim .int1 (.cons (.prim .fdiv (.cons (.var 3) (.cons (.cst (.int 883)) .nil))) .nil)) (.cons (.var 1) .nil)))) .skip))))⟩
def f43 : Fn := ⟨1, 1, [], (.seq (.ife (.or (.prim .isN (.cons (.var 0) .nil)) (.prim (.isi .bool) (.cons (.var 0) .nil))) (.seq (.ret (.ife (.prim .isN (.cons (.var 0) .nil)) (.cst (.int 0)) (.cst (.int 1)))) .skip) .skip) (.seq (.ife (.or (.prim (.isi .int) (.cons (.var 0) .nil)) (.prim (.isi .str) (.cons (.var 0) .nil))) (.seq (.ret (.ife (.prim (.isi .int) (.cons (.var 0) .nil)) (.cst (.int 2)) (.cst (.int 3)))) .skip) .skip) (.seq (.ret (.ife (.prim (.isi .tuple) (.cons (.var 0) .nil)) (.cst (.int 4)) (.ife (.prim (.isi .list) (.cons (.var 0) .nil)) (.cst (.int 5)) (.cst (.int 6))))) .skip)))⟩
def f44 : Fn := ⟨2, 5, [], (.seq (.asg (.nm 2) (.call 43 (.cons (.var 1) .nil))) (.seq (.ife (.or (.prim .ne (.cons (.call 43 (.cons (.var 0) .nil)) (.cons (.var 2) .nil))) (.prim .eq (.cons (.var 2) (.cons (.cst (.int 6)) .nil)))) (.seq (.ret (.cst (.bool false))) .skip) .skip) (.seq (.ife (.prim .isin (.cons (.var 2) (.cons (.prim .mkTup (.cons (.cst (.int 4)) (.cons (.cst (.int 5)) .nil))) .nil))) (.seq (.ret (.and (.prim .eq (.cons (.prim .len (.cons (.var 0) .nil)) (.cons (.prim .len (.cons (.var 1) .nil)) .nil))) (.prim .eq (.cons (.comp .zip (.cons (.var 0) (.cons (.var 1) .nil)) (.tp [3, 4]) (.cons (.not (.call 44 (.cons (.var 3) (.cons (.var 4) .nil)))) .nil) (.cst (.int 1))) (.cons (.disp .nil) .nil))))) .skip) .skip) (.seq (.ret (.prim .eq (.cons (.var 0) (.cons (.var 1) .nil)))) .skip))))⟩
def f45 : Fn := ⟨2, 8, [], (.seq (.asg (.nm 2) (.disp (.cons (.var 1) .nil))) (.seq (.for_ .rng1 (.cons (.cst (.int 12)) .nil) (.nm 3) (.seq (.for_ .seq (.cons (.prim (.slice true true) (.cons (.var 2) (.cons (.var 3) (.cons (.prim .add (.cons (.var 3) (.cons (.cst (.int 1)) .nil))) .nil)))) .nil) (.nm 4) (.seq (.asg (.nm 2) (.prim .add (.cons (.var 2) (.cons (.comp .seq (.cons (.prim .rev (.cons (.prim .sset (.cons (.prim .ix (.cons (.var 0) (.cons (.var 4) .nil))) .nil)) .nil)) .nil) (.nm 7) (.cons (.prim .notin (.cons (.var 7) (.cons (.var 2) .nil))) .nil) (.var 7)) .nil)))) .skip)) .skip)) (.seq (.asg (.nm 5) (.disp .nil)) (.seq (.for_ .enum (.cons (.var 2) .nil) (.tp [6, 4]) (.seq (.asg (.nm 5) (.prim .add (.cons (.var 5) (.cons (.comp .seq (.cons (.prim .sset (.cons (.prim .ix (.cons (.var 0) (.cons (.var 4) .nil))) .nil)) .nil) (.nm 7) .nil (.prim .mkTup (.cons (.var 6) (.cons (.idx (.var 2) (.var 7)) .nil)))) .nil)))) .skip)) (.seq (.ret (.prim .mkTup (.cons (.var 2) (.cons (.prim .mkTup (.cons (.prim .len (.cons (.var 2) .nil)) (.cons (.prim .tupOf (.cons (.prim .sorted (.cons (.var 5) .nil)) .nil)) .nil))) .nil)))) .skip)))))⟩
def f46 : Fn := ⟨3, 13, [], (.seq (.asg (.tp [3, 4]) (.call 45 (.cons (.var 0) (.cons (.var 1) .nil)))) (.seq (.asg (.nm 5) (.comp .rng1 (.cons (.prim .len (.cons (.var 3) .nil)) .nil) (.nm 11) .nil (.call 12 (.cons (.var 4) (.cons (.var 11) .nil))))) (.seq (.asg (.nm 7) (.comp .seq (.cons (.var 3) .nil) (.nm 6) .nil (.ife (.prim .ix (.cons (.var 2) (.cons (.var 6) .nil))) (.cst (.str ⟨#[108, 111, 115, 116]⟩)) (.cst (.str ⟨#[119, 111, 110]⟩))))) (.seq (.asg (.nm 8) (.call 13 (.cons (.var 4) .nil))) (.seq (.ife (.not (.call 44 (.cons (.disp (.cons (.call 11 (.cons (.var 4) .nil)) (.cons (.var 5) (.cons (.call 14 (.cons (.var 4) (.cons (.var 8) .nil))) .nil)))) (.cons (.disp (.cons (.cst (.bool true)) (.cons (.var 7) (.cons (.cst (.bool true)) .nil)))) .nil)))) (.seq (.ret (.cst (.bool false))) .skip) .skip) (.seq (.for_ .enum (.cons (.var 3) .nil) (.tp [9, 6]) (.seq (.asg (.nm 10) (.comp .seq (.cons (.prim .ix (.cons (.var 0) (.cons (.var 6) .nil))) .nil) (.nm 12) .nil (.prim .ix (.cons (.var 7) (.cons (.idx (.var 3) (.var 12)) .nil))))) (.seq (.ife (.or (.prim .ne (.cons (.prim .eq (.cons (.prim .ix (.cons (.var 7) (.cons (.var 9) .nil))) (.cons (.cst (.str ⟨#[108, 111, 115, 116]⟩)) .nil))) (.cons (.prim .notin (.cons (.cst (.str ⟨#[108, 111, 115, 116]⟩)) (.cons (.var 10) .nil))) .nil))) (.prim .ne (.cons (.prim .mod (.cons (.prim .int1 (.cons (.prim .ix (.cons (.var 8) (.cons (.var 9) .nil))) .nil)) (.cons (.cst (.int 2)) .nil))) (.cons (.ife (.prim .eq (.cons (.prim .ix (.cons (.var 7) (.cons (.var 9) .nil))) (.cons (.cst (.str ⟨#[108, 111, 115, 116]⟩)) .nil))) (.cst (.int 0)) (.cst (.int 1))) .nil)))) (.seq (.ret (.cst (.bool false))) .skip) .skip) .skip))) (.seq (.ret (.prim .lt (.cons (.prim .max1 (.cons (.var 8) .nil)) (.cons (.prim .len (.cons (.var 3) .nil)) .nil)))) .skip)))))))⟩
def f47 : Fn := ⟨1, 9, [0], (.seq (.asg (.nm 1) (.prim .tupOf (.cons (.prim .sset (.cons (.comp .rng1 (.cons (.prim .add (.cons (.cst (.int 1)) (.cons (.roll 0 (.cst (.int 4))) .nil))) .nil) (.nm 6) .nil (.prim .add (.cons (.cst (.int 1)) (.cons (.roll 0 (.cst (.int 6))) .nil)))) .nil)) .nil))) (.seq (.asg (.nm 2) (.roll 0 (.cst (.int 12)))) (.seq (.asg (.nm 3) (.prim .dictP (.cons (.comp .rng1 (.cons (.prim .add (.cons (.var 2) (.cons (.cst (.int 1)) .nil))) .nil) (.nm 7) .nil (.prim .mkTup (.cons (.var 7) (.cons (.comp .seq (.cons (.var 1) .nil) (.nm 8) (.cons (.prim .le (.cons (.var 8) (.cons (.var 7) .nil))) .nil) (.prim .sub (.cons (.var 7) (.cons (.var 8) .nil)))) .nil)))) .nil))) (.seq (.asg (.nm 4) (.prim .dictP (.cons (.comp .rng1 (.cons (.prim .add (.cons (.var 2) (.cons (.cst (.int 1)) .nil))) .nil) (.nm 7) .nil (.prim .mkTup (.cons (.var 7) (.cons (.call 22 (.cons (.var 1) (.cons (.prim .mkTup (.cons (.var 7) .nil)) .nil))) .nil)))) .nil))) (.seq (.ife (.not (.call 46 (.cons (.var 3) (.cons (.var 2) (.cons (.var 4) .nil))))) (.seq (.ret (.cst (.bool false))) .skip) .skip) (.seq (.asg (.nm 5) (.comp .seq (.cons (.var 1) .nil) (.nm 8) (.cons (.and (.prim .le (.cons (.var 8) (.cons (.var 2) .nil))) (.prim .ix (.cons (.var 4) (.cons (.prim .sub (.cons (.var 2) (.cons (.var 8) .nil))) .nil)))) .nil) (.prim .mkTup (.cons (.cst (.int 0)) (.cons (.var 8) .nil))))) (.seq (.ret (.call 44 (.cons (.call 23 (.cons (.var 1) (.cons (.prim .mkTup (.cons (.var 2) .nil)) .nil))) (.cons (.prim .tupOf (.cons (.var 5) .nil)) .nil)))) .skip)))))))⟩
def f48 : Fn := ⟨1, 11, [0], (.seq (.asg (.nm 1) (.roll 0 (.cst (.int 4)))) (.seq (.asg (.nm 2) (.roll 0 (.prim .add (.cons (.var 1) (.cons (.cst (.int 1)) .nil))))) (.seq (.par [(3, true), (4, true)] (.cons (.prim (.newD 1) .nil) (.cons (.prim (.newD 1) .nil) .nil))) (.seq (.for_ .rng1 (.cons (.prim .add (.cons (.var 1) (.cons (.cst (.int 1)) .nil))) .nil) (.nm 5) (.seq (.for_ .rng1 (.cons (.prim .add (.cons (.var 5) (.cons (.cst (.int 1)) .nil))) .nil) (.nm 6) (.seq (.asg (.nm 7) (.prim .add (.cons (.comp .rng2 (.cons (.cst (.int 1)) (.cons (.prim .add (.cons (.var 5) (.cons (.cst (.int 1)) .nil))) .nil)) (.nm 9) .nil (.prim .mkTup (.cons (.prim .sub (.cons (.var 5) (.cons (.var 9) .nil))) (.cons (.var 6) .nil)))) (.cons (.comp .rng2 (.cons (.cst (.int 1)) (.cons (.prim .add (.cons (.var 6) (.cons (.cst (.int 1)) .nil))) .nil)) (.nm 9) .nil (.prim .mkTup (.cons (.var 5) (.cons (.prim .sub (.cons (.var 6) (.cons (.var 9) .nil))) .nil)))) .nil)))) (.seq (.asg (.nm 7) (.prim .add (.cons (.var 7) (.cons (.comp .rng2 (.cons (.cst (.int 1)) (.cons (.prim .add (.cons (.var 6) (.cons (.cst (.int 1)) .nil))) .nil)) (.nm 9) .nil (.prim .mkTup (.cons (.prim .sub (.cons (.var 5) (.cons (.var 9) .nil))) (.cons (.prim .sub (.cons (.var 6) (.cons (.var 9) .nil))) .nil)))) .nil)))) (.seq (.put 3 (.prim .mkTup (.cons (.var 5) (.cons (.var 6) .nil))) (.comp .seq (.cons (.var 7) .nil) (.nm 10) .nil (.prim .mkTup (.cons (.prim .max1 (.cons (.var 10) .nil)) (.cons (.prim .min1 (.cons (.var 10) .nil)) .nil))))) (.seq (.put 4 (.prim .mkTup (.cons (.var 5) (.cons (.var 6) .nil))) (.call 29 (.cons (.var 5) (.cons (.var 6) .nil)))) .skip))))) .skip)) (.seq (.ife (.not (.call 46 (.cons (.var 3) (.cons (.prim .mkTup (.cons (.var 1) (.cons (.var 2) .nil))) (.cons (.var 4) .nil))))) (.seq (.ret (.cst (.bool false))) .skip) .skip) (.seq (.asg (.nm 8) (.call 30 (.cons (.var 1) (.cons (.var 2) .nil)))) (.seq (.ret (.and (.prim .eq (.cons (.prim .isN (.cons (.var 8) .nil)) (.cons (.prim .ix (.pk 4 (.cons (.prim .mkTup (.cons (.var 1) (.cons (.var 2) .nil))) .nil))) .nil))) (.or (.prim .isN (.cons (.var 8) .nil)) (.prim (.isB true) (.cons (.call 31 (.cons (.var 1) (.cons (.var 2) (.cons (.var 8) .nil)))) .nil))))) .skip)))))))⟩
def f49 : Fn := ⟨1, 15, [0], (.seq (.par [(1, false), (2, false)] (.cons (.roll 0 (.cst (.int 12))) (.cons (.roll 0 (.cst (.int 12))) .nil))) (.seq (.par [(3, false), (4, true), (5, true), (6, false)] (.cons (.prim .mkTup (.cons (.prim .max2 (.cons (.var 1) (.cons (.var 2) .nil))) (.cons (.prim .min2 (.cons (.var 1) (.cons (.var 2) .nil))) .nil))) (.cons (.prim (.newD 1) .nil) (.cons (.prim (.newD 1) .nil) (.cons (.disp (.cons (.prim .mkTup (.cons (.prim .max2 (.cons (.var 1) (.cons (.var 2) .nil))) (.cons (.prim .min2 (.cons (.var 1) (.cons (.var 2) .nil))) .nil))) .nil)) .nil))))) (.seq (.for_ .rng1 (.cons (.cst (.int 40)) .nil) (.nm 7) (.seq (.for_ .seq (.cons (.prim (.slice true true) (.cons (.var 6) (.cons (.var 7) (.cons (.prim .add (.cons (.var 7) (.cons (.cst (.int 1)) .nil))) .nil)))) .nil) (.tp [8, 9]) (.seq (.asg (.nm 10) (.ife (.prim .gt (.cons (.var 9) (.cons (.cst (.int 0)) .nil))) (.comp .rng2 (.cons (.cst (.int 1)) (.cons (.prim .add (.cons (.prim .fdiv (.cons (.var 8) (.cons (.var 9) .nil))) (.cons (.cst (.int 1)) .nil))) .nil)) (.nm 12) .nil (.prim .mkTup (.cons (.prim .sub (.cons (.var 8) (.cons (.prim .mul (.cons (.var 12) (.cons (.var 9) .nil))) .nil))) (.cons (.var 9) .nil)))) (.disp .nil))) (.seq (.put 4 (.prim .mkTup (.cons (.var 8) (.cons (.var 9) .nil))) (.comp .seq (.cons (.var 10) .nil) (.nm 13) .nil (.prim .mkTup (.cons (.prim .max1 (.cons (.var 13) .nil)) (.cons (.prim .min1 (.cons (.var 13) .nil)) .nil))))) (.seq (.put 5 (.prim .mkTup (.cons (.var 8) (.cons (.var 9) .nil))) (.call 39 (.cons (.var 8) (.cons (.var 9) .nil)))) (.seq (.asg (.nm 6) (.prim .add (.cons (.var 6) (.cons (.comp .seq (.cons (.prim .sset (.cons (.prim .ix (.pk 4 (.cons (.prim .mkTup (.cons (.var 8) (.cons (.var 9) .nil))) .nil))) .nil)) .nil) (.nm 13) (.cons (.prim .notin (.cons (.var 13) (.cons (.var 6) .nil))) .nil) (.var 13)) .nil)))) .skip))))) .skip)) (.seq (.ife (.prim .gt (.cons (.prim .len (.cons (.var 6) .nil)) (.cons (.cst (.int 12)) .nil))) (.seq (.ret (.cst (.bool true))) .skip) .skip) (.seq (.ife (.not (.call 46 (.cons (.var 4) (.cons (.var 3) (.cons (.var 5) .nil))))) (.seq (.ret (.cst (.bool false))) .skip) .skip) (.seq (.asg (.nm 11) (.comp .enum (.cons (.prim .ix (.pk 4 (.cons (.var 3) .nil))) .nil) (.tp [14, 13]) (.cons (.prim .ix (.pk 5 (.cons (.var 13) .nil))) .nil) (.prim .add (.cons (.var 14) (.cons (.cst (.int 1)) .nil))))) (.seq (.ret (.call 44 (.cons (.call 40 (.cons (.var 1) (.cons (.var 2) .nil))) (.cons (.prim .tupOf (.cons (.var 11) .nil)) .nil)))) .skip)))))))⟩
def f50 : Fn := ⟨1, 10, [0], (.seq (.asg (.nm 1) (.prim .mkTup (.cons (.roll 0 (.cst (.int 6))) (.cons (.prim .add (.cons (.cst (.int 1)) (.cons (.roll 0 (.cst (.int 4))) .nil))) .nil)))) (.seq (.par [(2, true), (3, true), (4, false)] (.cons (.prim (.newD 1) .nil) (.cons (.prim (.newD 1) .nil) (.cons (.disp (.cons (.var 1) .nil)) .nil)))) (.seq (.for_ .rng1 (.cons (.cst (.int 60)) .nil) (.nm 5) (.seq (.for_ .seq (.cons (.prim (.slice true true) (.cons (.var 4) (.cons (.var 5) (.cons (.prim .add (.cons (.var 5) (.cons (.cst (.int 1)) .nil))) .nil)))) .nil) (.tp [6, 7]) (.seq (.put 2 (.prim .mkTup (.cons (.var 6) (.cons (.var 7) .nil))) (.comp .rng2 (.cons (.cst (.int 1)) (.cons (.prim .add (.cons (.prim .min2 (.cons (.var 6) (.cons (.var 7) .nil))) (.cons (.cst (.int 1)) .nil))) .nil)) (.nm 8) .nil (.prim .mkTup (.cons (.prim .sub (.cons (.var 6) (.cons (.var 8) .nil))) (.cons (.prim .mul (.cons (.cst (.int 2)) (.cons (.var 8) .nil))) .nil))))) (.seq (.put 3 (.prim .mkTup (.cons (.var 6) (.cons (.var 7) .nil))) (.call 35 (.cons (.var 6) (.cons (.var 7) .nil)))) (.seq (.asg (.nm 4) (.prim .add (.cons (.var 4) (.cons (.comp .seq (.cons (.prim .ix (.pk 2 (.cons (.prim .mkTup (.cons (.var 6) (.cons (.var 7) .nil))) .nil))) .nil) (.nm 9) (.cons (.prim .notin (.cons (.var 9) (.cons (.var 4) .nil))) .nil) (.var 9)) .nil)))) .skip)))) .skip)) (.seq (.ife (.prim .gt (.cons (.prim .len (.cons (.var 4) .nil)) (.cons (.cst (.int 12)) .nil))) (.seq (.ret (.cst (.bool true))) .skip) .skip) (.seq (.ife (.not (.call 46 (.cons (.var 2) (.cons (.var 1) (.cons (.var 3) .nil))))) (.seq (.ret (.cst (.bool false))) .skip) .skip) (.seq (.asg (.tp [6, 7]) (.var 1)) (.seq (.ret (.call 44 (.cons (.call 36 (.cons (.var 6) (.cons (.var 7) .nil))) (.cons (.prim .tupOf (.cons (.comp .rng2 (.cons (.cst (.int 1)) (.cons (.prim .add (.cons (.prim .min2 (.cons (.var 6) (.cons (.var 7) .nil))) (.cons (.cst (.int 1)) .nil))) .nil)) (.nm 8) (.cons (.prim .ix (.pk 3 (.cons (.prim .mkTup (.cons (.prim .sub (.cons (.var 6) (.cons (.var 8) .nil))) (.cons (.prim .mul (.cons (.cst (.int 2)) (.cons (.var 8) .nil))) .nil))) .nil))) .nil) (.var 8)) .nil)) .nil)))) .skip)))))))⟩
def f51 : Fn := ⟨1, 8, [], (.seq (.asg (.nm 1) (.call 41 (.cons (.var 0) .nil))) (.seq (.for_ .rng1 (.cons (.cst (.int 5)) .nil) (.nm 2) (.seq (.ife (.or (.not (.call 47 (.pk 1 .nil))) (.or (.not (.call 48 (.pk 1 .nil))) (.or (.not (.call 49 (.pk 1 .nil))) (.not (.call 50 (.pk 1 .nil)))))) (.seq (.ret (.cst (.bool false))) .skip) .skip) .skip)) (.seq (.asg (.tp [3, 4]) (.call 45 (.cons (.prim .dispD (.cons (.cst (.int 0)) (.cons (.disp .nil) (.cons (.cst (.int 1)) (.cons (.disp (.cons (.cst (.int 0)) .nil)) (.cons (.cst (.int 2)) (.cons (.disp (.cons (.cst (.int 1)) (.cons (.cst (.int 0)) .nil))) (.cons (.cst (.int 3)) (.cons (.disp (.cons (.cst (.int 2)) (.cons (.cst (.int 1)) .nil))) (.cons (.cst (.int 4)) (.cons (.disp (.cons (.cst (.int 3)) (.cons (.cst (.int 2)) .nil))) .nil))))))))))) (.cons (.cst (.int 4)) .nil)))) (.seq (.asg (.nm 5) (.disp (.cons (.var 3) (.cons (.var 4) (.cons (.comp .rng1 (.cons (.cst (.int 5)) .nil) (.nm 7) .nil (.call 12 (.cons (.var 4) (.cons (.var 7) .nil)))) (.cons (.call 13 (.cons (.var 4) .nil)) (.cons (.call 12 (.cons (.prim .mkTup (.cons (.cst (.int 2)) (.cons (.prim .mkTup (.cons (.prim .mkTup (.cons (.cst (.int 0)) (.cons (.cst (.int 1)) .nil))) (.cons (.prim .mkTup (.cons (.cst (.int 1)) (.cons (.cst (.int 0)) .nil))) .nil))) .nil))) (.cons (.cst (.int 0)) .nil))) .nil))))))) (.seq (.asg (.nm 6) (.disp (.cons (.disp (.cons (.cst (.int 4)) (.cons (.cst (.int 3)) (.cons (.cst (.int 2)) (.cons (.cst (.int 1)) (.cons (.cst (.int 0)) .nil)))))) (.cons (.prim .mkTup (.cons (.cst (.int 5)) (.cons (.prim .mkTup (.cons (.prim .mkTup (.cons (.cst (.int 0)) (.cons (.cst (.int 1)) .nil))) (.cons (.prim .mkTup (.cons (.cst (.int 0)) (.cons (.cst (.int 2)) .nil))) (.cons (.prim .mkTup (.cons (.cst (.int 1)) (.cons (.cst (.int 2)) .nil))) (.cons (.prim .mkTup (.cons (.cst (.int 1)) (.cons (.cst (.int 3)) .nil))) (.cons (.prim .mkTup (.cons (.cst (.int 2)) (.cons (.cst (.int 3)) .nil))) (.cons (.prim .mkTup (.cons (.cst (.int 2)) (.cons (.cst (.int 4)) .nil))) (.cons (.prim .mkTup (.cons (.cst (.int 3)) (.cons (.cst (.int 4)) .nil))) .nil)))))))) .nil))) (.cons (.disp (.cons (.cst (.str ⟨#[119, 111, 110]⟩)) (.cons (.cst (.str ⟨#[108, 111, 115, 116]⟩)) (.cons (.cst (.str ⟨#[119, 111, 110]⟩)) (.cons (.cst (.str ⟨#[119, 111, 110]⟩)) (.cons (.cst (.str ⟨#[108, 111, 115, 116]⟩)) .nil)))))) (.cons (.prim .mkTup (.cons (.cst (.int 3)) (.cons (.cst (.int 2)) (.cons (.cst (.int 1)) (.cons (.cst (.int 1)) (.cons (.cst (.int 0)) .nil)))))) (.cons (.cst (.str ⟨#[111, 112, 101, 110]⟩)) .nil))))))) (.seq (.ret (.and (.call 44 (.cons (.var 5) (.cons (.var 6) .nil))) (.and (.prim (.isB true) (.cons (.call 29 (.cons (.cst (.int 1)) (.cons (.cst (.int 2)) .nil))) .nil)) (.and (.prim (.isB true) (.cons (.call 35 (.cons (.cst (.int 5)) (.cons (.cst (.int 1)) .nil))) .nil)) (.and (.prim (.isB true) (.cons (.call 39 (.cons (.cst (.int 3)) (.cons (.cst (.int 2)) .nil))) .nil)) (.prim (.isB false) (.cons (.call 22 (.cons (.prim .mkTup (.cons (.cst (.int 1)) (.cons (.cst (.int 2)) .nil))) (.cons (.prim .mkTup (.cons (.cst (.int 1)) .nil)) .nil))) .nil))))))) .skip))))))⟩
def P : List Fn := [f0, f1, f2, f3, f4, f5, f6, f7, f8, f9, f10, f11, f12, f13, f14, f15, f16, f17, f18, f19, f20, f21, f22, f23, f24, f25, f26, f27, f28, f29, f30, f31, f32, f33, f34, f35, f36, f37, f38, f39, f40, f41, f42, f43, f44, f45, f46, f47, f48, f49, f50, f51]
theorem p0 : P[0]? = some f0 := rfl
theorem p1 : P[1]? = some f1 := rfl
theorem p2 : P[2]? = some f2 := rfl
theorem p3 : P[3]? = some f3 := rfl
theorem p4 : P[4]? = some f4 := rfl
theorem p5 : P[5]? = some f5 := rfl
theorem p6 : P[6]? = some f6 := rfl
theorem p7 : P[7]? = some f7 := rfl
theorem p8 : P[8]? = some f8 := rfl
theorem p9 : P[9]? = some f9 := rfl
theorem p10 : P[10]? = some f10 := rfl
theorem p11 : P[11]? = some f11 := rfl
theorem p12 : P[12]? = some f12 := rfl
theorem p13 : P[13]? = some f13 := rfl
theorem p14 : P[14]? = some f14 := rfl
theorem p15 : P[15]? = some f15 := rfl
theorem p16 : P[16]? = some f16 := rfl
theorem p17 : P[17]? = some f17 := rfl
theorem p18 : P[18]? = some f18 := rfl
theorem p19 : P[19]? = some f19 := rfl
theorem p20 : P[20]? = some f20 := rfl
theorem p21 : P[21]? = some f21 := rfl
theorem p22 : P[22]? = some f22 := rfl
theorem p23 : P[23]? = some f23 := rfl
theorem p24 : P[24]? = some f24 := rfl
theorem p25 : P[25]? = some f25 := rfl
theorem p26 : P[26]? = some f26 := rfl
theorem p27 : P[27]? = some f27 := rfl
theorem p28 : P[28]? = some f28 := rfl
theorem p29 : P[29]? = some f29 := rfl
theorem p30 : P[30]? = some f30 := rfl
theorem p31 : P[31]? = some f31 := rfl
theorem p32 : P[32]? = some f32 := rfl
theorem p33 : P[33]? = some f33 := rfl
theorem p34 : P[34]? = some f34 := rfl
theorem p35 : P[35]? = some f35 := rfl
theorem p36 : P[36]? = some f36 := rfl
theorem p37 : P[37]? = some f37 := rfl
theorem p38 : P[38]? = some f38 := rfl
theorem p39 : P[39]? = some f39 := rfl
theorem p40 : P[40]? = some f40 := rfl
theorem p41 : P[41]? = some f41 := rfl
theorem p42 : P[42]? = some f42 := rfl
theorem p43 : P[43]? = some f43 := rfl
theorem p44 : P[44]? = some f44 := rfl
theorem p45 : P[45]? = some f45 := rfl
theorem p46 : P[46]? = some f46 := rfl
theorem p47 : P[47]? = some f47 := rfl
theorem p48 : P[48]? = some f48 := rfl
theorem p49 : P[49]? = some f49 := rfl
theorem p50 : P[50]? = some f50 := rfl
theorem p51 : P[51]? = some f51 := rfl
end LK88
namespace LK88
open PySem PySem.Spec PyProof.Rows L2 G
def st (i : Nat) : Stmt := PySem.Challenge.pw_gamesweighed_k88_whole_games_as_arrows.main.body.getD i (.Pass ⟨0, 0, 0, 0⟩)
def G1 : CEnv := ⟨[(("CORNERS" : Str), (.int 12)), (("RANK" : Str), (.int 1000)), (("MANY" : Str), (.int 12)), (("GREAT" : Str), (.int 1000000000000000000)), (("NEAR" : Str), (.int 20000)), (("SORTS" : Str), (.int 10)), (("TAKEN" : Str), (.int 60))], [(("is_whole" : Str), (0, [])), (("need_whole" : Str), (1, [])), (("is_tuple_of" : Str), (2, [])), (("is_ascending" : Str), (3, [])), (("are_wholes" : Str), (4, [])), (("fits_arrows" : Str), (5, [])), (("need_arrows" : Str), (6, [])), (("ends_from" : Str), (7, [])), (("ranks_in" : Str), (8, [])), (("kind_of" : Str), (9, [])), (("fits_ranks" : Str), (10, [])), (("are_arrows" : Str), (11, [])), (("kind_at" : Str), (12, [])), (("ranks_of" : Str), (13, [])), (("is_rank_row" : Str), (14, [])), (("joined" : Str), (15, [])), (("missing_in" : Str), (16, [])), (("fit_takings" : Str), (17, [])), (("need_takings" : Str), (18, [])), (("need_few" : Str), (19, [])), (("numbers_to" : Str), (20, [])), (("numbers_of" : Str), (21, [])), (("heaps_lost" : Str), (22, [])), (("winning_takes" : Str), (23, [])), (("root_of" : Str), (24, [])), (("lesser_of" : Str), (25, [])), (("is_lost_bothheaps" : Str), (26, [])), (("partner_of" : Str), (27, [])), (("need_both_bothheaps" : Str), (28, [])), (("both_lost" : Str), (29, [])), (("both_move" : Str), (30, [])), (("is_both_move" : Str), (31, [])), (("parts_in" : Str), (32, [])), (("takes_in" : Str), (33, [])), (("need_both_doublings" : Str), (34, [])), (("doubling_lost" : Str), (35, [])), (("doubling_takes" : Str), (36, [])), (("is_lost" : Str), (37, [])), (("is_lost_euclids" : Str), (37, [])), (("need_both" : Str), (38, [])), (("need_both_euclids" : Str), (38, [])), (("euclid_lost" : Str), (39, [])), (("euclid_times" : Str), (40, [])), (("_law_cup" : Str), (41, [])), (("_law_sort" : Str), (43, [])), (("_law_like" : Str), (44, [])), (("_law_arrows" : Str), (45, [])), (("_law_right" : Str), (46, [])), (("_law_takings" : Str), (47, [0])), (("_law_both" : Str), (48, [0])), (("_law_euclid" : Str), (49, [0])), (("_law_doubling" : Str), (50, [0])), (("law" : Str), (51, []))], some "_law_roll"⟩
def F0 : Fr := ⟨[("value" : Str), ("low" : Str), ("high" : Str)], [], []⟩
theorem sc0 : FnScope F0.N [("value" : Str), ("low" : Str), ("high" : Str)] (defScope (st 8)) := ⟨rfl, rfl, rfl, by decide +kernel, rfl, by decide +kernel, by decide +kernel⟩
theorem cc0 : cSs (cS G1 F0 (defScope (st 8)) 40 40) (defBody (st 8)) = some f0.body := by kernel_rfl
theorem ok0 : f0.ar = [("value" : Str), ("low" : Str), ("high" : Str)].length ∧ f0.ns = F0.N.length ∧ f0.ok = true := by decide +kernel
def F1 : Fr := ⟨[("value" : Str), ("low" : Str), ("high" : Str)], [], []⟩
theorem sc1 : FnScope F1.N [("value" : Str), ("low" : Str), ("high" : Str)] (defScope (st 9)) := ⟨rfl, rfl, rfl, by decide +kernel, rfl, by decide +kernel, by decide +kernel⟩
theorem cc1 : cSs (cS G1 F1 (defScope (st 9)) 40 40) (defBody (st 9)) = some f1.body := by kernel_rfl
theorem ok1 : f1.ar = [("value" : Str), ("low" : Str), ("high" : Str)].length ∧ f1.ns = F1.N.length ∧ f1.ok = true := by decide +kernel
def F2 : Fr := ⟨[("value" : Str), ("low" : Str), ("high" : Str)], [], []⟩
theorem sc2 : FnScope F2.N [("value" : Str), ("low" : Str), ("high" : Str)] (defScope (st 10)) := ⟨rfl, rfl, rfl, by decide +kernel, rfl, by decide +kernel, by decide +kernel⟩
theorem cc2 : cSs (cS G1 F2 (defScope (st 10)) 40 40) (defBody (st 10)) = some f2.body := by kernel_rfl
theorem ok2 : f2.ar = [("value" : Str), ("low" : Str), ("high" : Str)].length ∧ f2.ns = F2.N.length ∧ f2.ok = true := by decide +kernel
def F3 : Fr := ⟨[("values" : Str), ("one" : Str), ("other" : Str)], [], []⟩
theorem sc3 : FnScope F3.N [("values" : Str)] (defScope (st 11)) := ⟨rfl, rfl, rfl, by decide +kernel, rfl, by decide +kernel, by decide +kernel⟩
theorem cc3 : cSs (cS G1 F3 (defScope (st 11)) 40 40) (defBody (st 11)) = some f3.body := by kernel_rfl
theorem ok3 : f3.ar = [("values" : Str)].length ∧ f3.ns = F3.N.length ∧ f3.ok = true := by decide +kernel
def F4 : Fr := ⟨[("value" : Str), ("many" : Str), ("low" : Str), ("high" : Str), ("one" : Str)], [], []⟩
theorem sc4 : FnScope F4.N [("value" : Str), ("many" : Str), ("low" : Str), ("high" : Str)] (defScope (st 12)) := ⟨rfl, rfl, rfl, by decide +kernel, rfl, by decide +kernel, by decide +kernel⟩
theorem cc4 : cSs (cS G1 F4 (defScope (st 12)) 40 40) (defBody (st 12)) = some f4.body := by kernel_rfl
theorem ok4 : f4.ar = [("value" : Str), ("many" : Str), ("low" : Str), ("high" : Str)].length ∧ f4.ns = F4.N.length ∧ f4.ok = true := by decide +kernel
def F5 : Fr := ⟨[("value" : Str), ("row" : Str)], [], []⟩
theorem sc5 : FnScope F5.N [("value" : Str)] (defScope (st 16)) := ⟨rfl, rfl, rfl, by decide +kernel, rfl, by decide +kernel, by decide +kernel⟩
theorem cc5 : cSs (cS G1 F5 (defScope (st 16)) 40 40) (defBody (st 16)) = some f5.body := by kernel_rfl
theorem ok5 : f5.ar = [("value" : Str)].length ∧ f5.ns = F5.N.length ∧ f5.ok = true := by decide +kernel
def F6 : Fr := ⟨[("value" : Str)], [], []⟩
theorem sc6 : FnScope F6.N [("value" : Str)] (defScope (st 17)) := ⟨rfl, rfl, rfl, by decide +kernel, rfl, by decide +kernel, by decide +kernel⟩
theorem cc6 : cSs (cS G1 F6 (defScope (st 17)) 40 40) (defBody (st 17)) = some f6.body := by kernel_rfl
theorem ok6 : f6.ar = [("value" : Str)].length ∧ f6.ns = F6.N.length ∧ f6.ok = true := by decide +kernel
def F7 : Fr := ⟨[("arrows" : Str), ("start" : Str), ("own" : Str), ("end" : Str)], [], []⟩
theorem sc7 : FnScope F7.N [("arrows" : Str)] (defScope (st 18)) := ⟨rfl, rfl, rfl, by decide +kernel, rfl, by decide +kernel, by decide +kernel⟩
theorem cc7 : cSs (cS G1 F7 (defScope (st 18)) 40 40) (defBody (st 18)) = some f7.body := by kernel_rfl
theorem ok7 : f7.ar = [("arrows" : Str)].length ∧ f7.ns = F7.N.length ∧ f7.ok = true := by decide +kernel
def F8 : Fr := ⟨[("arrows" : Str), ("ends" : Str), ("found" : Str), ("rank" : Str), ("fresh" : Str), ("corner" : Str), ("row" : Str), ("ranks" : Str), ("fits" : Str), ("end" : Str), ("own" : Str)], [4], []⟩
theorem sc8 : FnScope F8.N [("arrows" : Str)] (defScope (st 19)) := ⟨rfl, rfl, rfl, by decide +kernel, rfl, by decide +kernel, by decide +kernel⟩
theorem cc8 : cSs (cS G1 F8 (defScope (st 19)) 40 40) (defBody (st 19)) = some f8.body := by kernel_rfl
theorem ok8 : f8.ar = [("arrows" : Str)].length ∧ f8.ns = F8.N.length ∧ f8.ok = true := by decide +kernel
def F9 : Fr := ⟨[("rank" : Str)], [], []⟩
theorem sc9 : FnScope F9.N [("rank" : Str)] (defScope (st 20)) := ⟨rfl, rfl, rfl, by decide +kernel, rfl, by decide +kernel, by decide +kernel⟩
theorem cc9 : cSs (cS G1 F9 (defScope (st 20)) 40 40) (defBody (st 20)) = some f9.body := by kernel_rfl
theorem ok9 : f9.ar = [("rank" : Str)].length ∧ f9.ns = F9.N.length ∧ f9.ok = true := by decide +kernel
def F10 : Fr := ⟨[("rank" : Str), ("ranks" : Str), ("own" : Str)], [], []⟩
theorem sc10 : FnScope F10.N [("rank" : Str), ("ranks" : Str)] (defScope (st 21)) := ⟨rfl, rfl, rfl, by decide +kernel, rfl, by decide +kernel, by decide +kernel⟩
theorem cc10 : cSs (cS G1 F10 (defScope (st 21)) 40 40) (defBody (st 21)) = some f10.body := by kernel_rfl
theorem ok10 : f10.ar = [("rank" : Str), ("ranks" : Str)].length ∧ f10.ns = F10.N.length ∧ f10.ok = true := by decide +kernel
def F11 : Fr := ⟨[("value" : Str)], [], []⟩
theorem sc11 : FnScope F11.N [("value" : Str)] (defScope (st 22)) := ⟨rfl, rfl, rfl, by decide +kernel, rfl, by decide +kernel, by decide +kernel⟩
theorem cc11 : cSs (cS G1 F11 (defScope (st 22)) 40 40) (defBody (st 22)) = some f11.body := by kernel_rfl
theorem ok11 : f11.ar = [("value" : Str)].length ∧ f11.ns = F11.N.length ∧ f11.ok = true := by decide +kernel
def F12 : Fr := ⟨[("arrows" : Str), ("corner" : Str)], [], []⟩
theorem sc12 : FnScope F12.N [("arrows" : Str), ("corner" : Str)] (defScope (st 23)) := ⟨rfl, rfl, rfl, by decide +kernel, rfl, by decide +kernel, by decide +kernel⟩
theorem cc12 : cSs (cS G1 F12 (defScope (st 23)) 40 40) (defBody (st 23)) = some f12.body := by kernel_rfl
theorem ok12 : f12.ar = [("arrows" : Str), ("corner" : Str)].length ∧ f12.ns = F12.N.length ∧ f12.ok = true := by decide +kernel
def F13 : Fr := ⟨[("arrows" : Str)], [], []⟩
theorem sc13 : FnScope F13.N [("arrows" : Str)] (defScope (st 24)) := ⟨rfl, rfl, rfl, by decide +kernel, rfl, by decide +kernel, by decide +kernel⟩
theorem cc13 : cSs (cS G1 F13 (defScope (st 24)) 40 40) (defBody (st 24)) = some f13.body := by kernel_rfl
theorem ok13 : f13.ar = [("arrows" : Str)].length ∧ f13.ns = F13.N.length ∧ f13.ok = true := by decide +kernel
def F14 : Fr := ⟨[("arrows" : Str), ("value" : Str), ("rank" : Str), ("row" : Str), ("end" : Str)], [], []⟩
theorem sc14 : FnScope F14.N [("arrows" : Str), ("value" : Str)] (defScope (st 25)) := ⟨rfl, rfl, rfl, by decide +kernel, rfl, by decide +kernel, by decide +kernel⟩
theorem cc14 : cSs (cS G1 F14 (defScope (st 25)) 40 40) (defBody (st 25)) = some f14.body := by kernel_rfl
theorem ok14 : f14.ar = [("arrows" : Str), ("value" : Str)].length ∧ f14.ns = F14.N.length ∧ f14.ok = true := by decide +kernel
def F15 : Fr := ⟨[("numbers" : Str), ("found" : Str), ("number" : Str)], [], []⟩
theorem sc15 : FnScope F15.N [("numbers" : Str)] (defScope (st 27)) := ⟨rfl, rfl, rfl, by decide +kernel, rfl, by decide +kernel, by decide +kernel⟩
theorem cc15 : cSs (cS G1 F15 (defScope (st 27)) 40 40) (defBody (st 27)) = some f15.body := by kernel_rfl
theorem ok15 : f15.ar = [("numbers" : Str)].length ∧ f15.ns = F15.N.length ∧ f15.ok = true := by decide +kernel
def F16 : Fr := ⟨[("numbers" : Str), ("have" : Str), ("found" : Str), ("number" : Str)], [], []⟩
theorem sc16 : FnScope F16.N [("numbers" : Str)] (defScope (st 28)) := ⟨rfl, rfl, rfl, by decide +kernel, rfl, by decide +kernel, by decide +kernel⟩
theorem cc16 : cSs (cS G1 F16 (defScope (st 28)) 40 40) (defBody (st 28)) = some f16.body := by kernel_rfl
theorem ok16 : f16.ar = [("numbers" : Str)].length ∧ f16.ns = F16.N.length ∧ f16.ok = true := by decide +kernel
def F17 : Fr := ⟨[("value" : Str), ("one" : Str)], [], []⟩
theorem sc17 : FnScope F17.N [("value" : Str)] (defScope (st 35)) := ⟨rfl, rfl, rfl, by decide +kernel, rfl, by decide +kernel, by decide +kernel⟩
theorem cc17 : cSs (cS G1 F17 (defScope (st 35)) 40 40) (defBody (st 35)) = some f17.body := by kernel_rfl
theorem ok17 : f17.ar = [("value" : Str)].length ∧ f17.ns = F17.N.length ∧ f17.ok = true := by decide +kernel
def F18 : Fr := ⟨[("value" : Str)], [], []⟩
theorem sc18 : FnScope F18.N [("value" : Str)] (defScope (st 36)) := ⟨rfl, rfl, rfl, by decide +kernel, rfl, by decide +kernel, by decide +kernel⟩
theorem cc18 : cSs (cS G1 F18 (defScope (st 36)) 40 40) (defBody (st 36)) = some f18.body := by kernel_rfl
theorem ok18 : f18.ar = [("value" : Str)].length ∧ f18.ns = F18.N.length ∧ f18.ok = true := by decide +kernel
def F19 : Fr := ⟨[("value" : Str), ("most" : Str), ("heap" : Str)], [], []⟩
theorem sc19 : FnScope F19.N [("value" : Str), ("most" : Str)] (defScope (st 37)) := ⟨rfl, rfl, rfl, by decide +kernel, rfl, by decide +kernel, by decide +kernel⟩
theorem cc19 : cSs (cS G1 F19 (defScope (st 37)) 40 40) (defBody (st 37)) = some f19.body := by kernel_rfl
theorem ok19 : f19.ar = [("value" : Str), ("most" : Str)].length ∧ f19.ns = F19.N.length ∧ f19.ok = true := by decide +kernel
def F20 : Fr := ⟨[("takings" : Str), ("n" : Str), ("found" : Str), ("heap" : Str), ("own" : Str)], [2], []⟩
theorem sc20 : FnScope F20.N [("takings" : Str), ("n" : Str)] (defScope (st 38)) := ⟨rfl, rfl, rfl, by decide +kernel, rfl, by decide +kernel, by decide +kernel⟩
theorem cc20 : cSs (cS G1 F20 (defScope (st 38)) 40 40) (defBody (st 38)) = some f20.body := by kernel_rfl
theorem ok20 : f20.ar = [("takings" : Str), ("n" : Str)].length ∧ f20.ns = F20.N.length ∧ f20.ok = true := by decide +kernel
def F21 : Fr := ⟨[("takings" : Str), ("heaps" : Str), ("numbers" : Str), ("heap" : Str)], [], []⟩
theorem sc21 : FnScope F21.N [("takings" : Str), ("heaps" : Str)] (defScope (st 39)) := ⟨rfl, rfl, rfl, by decide +kernel, rfl, by decide +kernel, by decide +kernel⟩
theorem cc21 : cSs (cS G1 F21 (defScope (st 39)) 40 40) (defBody (st 39)) = some f21.body := by kernel_rfl
theorem ok21 : f21.ar = [("takings" : Str), ("heaps" : Str)].length ∧ f21.ns = F21.N.length ∧ f21.ok = true := by decide +kernel
def F22 : Fr := ⟨[("takings" : Str), ("heaps" : Str)], [], []⟩
theorem sc22 : FnScope F22.N [("takings" : Str), ("heaps" : Str)] (defScope (st 40)) := ⟨rfl, rfl, rfl, by decide +kernel, rfl, by decide +kernel, by decide +kernel⟩
theorem cc22 : cSs (cS G1 F22 (defScope (st 40)) 40 40) (defBody (st 40)) = some f22.body := by kernel_rfl
theorem ok22 : f22.ar = [("takings" : Str), ("heaps" : Str)].length ∧ f22.ns = F22.N.length ∧ f22.ok = true := by decide +kernel
def F23 : Fr := ⟨[("takings" : Str), ("heaps" : Str), ("numbers" : Str), ("heap" : Str), ("whole" : Str), ("found" : Str), ("at" : Str), ("goal" : Str), ("own" : Str)], [], []⟩
theorem sc23 : FnScope F23.N [("takings" : Str), ("heaps" : Str)] (defScope (st 41)) := ⟨rfl, rfl, rfl, by decide +kernel, rfl, by decide +kernel, by decide +kernel⟩
theorem cc23 : cSs (cS G1 F23 (defScope (st 41)) 40 40) (defBody (st 41)) = some f23.body := by kernel_rfl
theorem ok23 : f23.ar = [("takings" : Str), ("heaps" : Str)].length ∧ f23.ns = F23.N.length ∧ f23.ok = true := by decide +kernel
def F24 : Fr := ⟨[("number" : Str), ("low" : Str), ("high" : Str), ("middle" : Str)], [], []⟩
theorem sc24 : FnScope F24.N [("number" : Str)] (defScope (st 43)) := ⟨rfl, rfl, rfl, by decide +kernel, rfl, by decide +kernel, by decide +kernel⟩
theorem cc24 : cSs (cS G1 F24 (defScope (st 43)) 40 40) (defBody (st 43)) = some f24.body := by kernel_rfl
theorem ok24 : f24.ar = [("number" : Str)].length ∧ f24.ns = F24.N.length ∧ f24.ok = true := by decide +kernel
def F25 : Fr := ⟨[("d" : Str)], [], []⟩
theorem sc25 : FnScope F25.N [("d" : Str)] (defScope (st 44)) := ⟨rfl, rfl, rfl, by decide +kernel, rfl, by decide +kernel, by decide +kernel⟩
theorem cc25 : cSs (cS G1 F25 (defScope (st 44)) 40 40) (defBody (st 44)) = some f25.body := by kernel_rfl
theorem ok25 : f25.ar = [("d" : Str)].length ∧ f25.ns = F25.N.length ∧ f25.ok = true := by decide +kernel
def F26 : Fr := ⟨[("a" : Str), ("b" : Str)], [], []⟩
theorem sc26 : FnScope F26.N [("a" : Str), ("b" : Str)] (defScope (st 45)) := ⟨rfl, rfl, rfl, by decide +kernel, rfl, by decide +kernel, by decide +kernel⟩
theorem cc26 : cSs (cS G1 F26 (defScope (st 45)) 40 40) (defBody (st 45)) = some f26.body := by kernel_rfl
theorem ok26 : f26.ar = [("a" : Str), ("b" : Str)].length ∧ f26.ns = F26.N.length ∧ f26.ok = true := by decide +kernel
def F27 : Fr := ⟨[("number" : Str), ("root" : Str), ("d" : Str)], [], []⟩
theorem sc27 : FnScope F27.N [("number" : Str)] (defScope (st 47)) := ⟨rfl, rfl, rfl, by decide +kernel, rfl, by decide +kernel, by decide +kernel⟩
theorem cc27 : cSs (cS G1 F27 (defScope (st 47)) 40 40) (defBody (st 47)) = some f27.body := by kernel_rfl
theorem ok27 : f27.ar = [("number" : Str)].length ∧ f27.ns = F27.N.length ∧ f27.ok = true := by decide +kernel
def F28 : Fr := ⟨[("a" : Str), ("b" : Str)], [], []⟩
theorem sc28 : FnScope F28.N [("a" : Str), ("b" : Str)] (defScope (st 48)) := ⟨rfl, rfl, rfl, by decide +kernel, rfl, by decide +kernel, by decide +kernel⟩
theorem cc28 : cSs (cS G1 F28 (defScope (st 48)) 40 40) (defBody (st 48)) = some f28.body := by kernel_rfl
theorem ok28 : f28.ar = [("a" : Str), ("b" : Str)].length ∧ f28.ns = F28.N.length ∧ f28.ok = true := by decide +kernel
def F29 : Fr := ⟨[("a" : Str), ("b" : Str)], [], []⟩
theorem sc29 : FnScope F29.N [("a" : Str), ("b" : Str)] (defScope (st 50)) := ⟨rfl, rfl, rfl, by decide +kernel, rfl, by decide +kernel, by decide +kernel⟩
theorem cc29 : cSs (cS G1 F29 (defScope (st 50)) 40 40) (defBody (st 50)) = some f29.body := by kernel_rfl
theorem ok29 : f29.ar = [("a" : Str), ("b" : Str)].length ∧ f29.ns = F29.N.length ∧ f29.ok = true := by decide +kernel
def F30 : Fr := ⟨[("a" : Str), ("b" : Str), ("more" : Str)], [], []⟩
theorem sc30 : FnScope F30.N [("a" : Str), ("b" : Str)] (defScope (st 51)) := ⟨rfl, rfl, rfl, by decide +kernel, rfl, by decide +kernel, by decide +kernel⟩
theorem cc30 : cSs (cS G1 F30 (defScope (st 51)) 40 40) (defBody (st 51)) = some f30.body := by kernel_rfl
theorem ok30 : f30.ar = [("a" : Str), ("b" : Str)].length ∧ f30.ns = F30.N.length ∧ f30.ok = true := by decide +kernel
def F31 : Fr := ⟨[("a" : Str), ("b" : Str), ("value" : Str), ("one" : Str), ("other" : Str)], [], []⟩
theorem sc31 : FnScope F31.N [("a" : Str), ("b" : Str), ("value" : Str)] (defScope (st 52)) := ⟨rfl, rfl, rfl, by decide +kernel, rfl, by decide +kernel, by decide +kernel⟩
theorem cc31 : cSs (cS G1 F31 (defScope (st 52)) 40 40) (defBody (st 52)) = some f31.body := by kernel_rfl
theorem ok31 : f31.ar = [("a" : Str), ("b" : Str), ("value" : Str)].length ∧ f31.ns = F31.N.length ∧ f31.ok = true := by decide +kernel
def F32 : Fr := ⟨[("n" : Str), ("row" : Str), ("found" : Str), ("number" : Str)], [1, 2], []⟩
theorem sc32 : FnScope F32.N [("n" : Str)] (defScope (st 54)) := ⟨rfl, rfl, rfl, by decide +kernel, rfl, by decide +kernel, by decide +kernel⟩
theorem cc32 : cSs (cS G1 F32 (defScope (st 54)) 40 40) (defBody (st 54)) = some f32.body := by kernel_rfl
theorem ok32 : f32.ar = [("n" : Str)].length ∧ f32.ns = F32.N.length ∧ f32.ok = true := by decide +kernel
def F33 : Fr := ⟨[("n" : Str), ("q" : Str), ("parts" : Str), ("found" : Str), ("taken" : Str), ("at" : Str)], [3], []⟩
theorem sc33 : FnScope F33.N [("n" : Str), ("q" : Str)] (defScope (st 55)) := ⟨rfl, rfl, rfl, by decide +kernel, rfl, by decide +kernel, by decide +kernel⟩
theorem cc33 : cSs (cS G1 F33 (defScope (st 55)) 40 40) (defBody (st 55)) = some f33.body := by kernel_rfl
theorem ok33 : f33.ar = [("n" : Str), ("q" : Str)].length ∧ f33.ns = F33.N.length ∧ f33.ok = true := by decide +kernel
def F34 : Fr := ⟨[("n" : Str), ("q" : Str)], [], []⟩
theorem sc34 : FnScope F34.N [("n" : Str), ("q" : Str)] (defScope (st 56)) := ⟨rfl, rfl, rfl, by decide +kernel, rfl, by decide +kernel, by decide +kernel⟩
theorem cc34 : cSs (cS G1 F34 (defScope (st 56)) 40 40) (defBody (st 56)) = some f34.body := by kernel_rfl
theorem ok34 : f34.ar = [("n" : Str), ("q" : Str)].length ∧ f34.ns = F34.N.length ∧ f34.ok = true := by decide +kernel
def F35 : Fr := ⟨[("n" : Str), ("q" : Str)], [], []⟩
theorem sc35 : FnScope F35.N [("n" : Str), ("q" : Str)] (defScope (st 58)) := ⟨rfl, rfl, rfl, by decide +kernel, rfl, by decide +kernel, by decide +kernel⟩
theorem cc35 : cSs (cS G1 F35 (defScope (st 58)) 40 40) (defBody (st 58)) = some f35.body := by kernel_rfl
theorem ok35 : f35.ar = [("n" : Str), ("q" : Str)].length ∧ f35.ns = F35.N.length ∧ f35.ok = true := by decide +kernel
def F36 : Fr := ⟨[("n" : Str), ("q" : Str)], [], []⟩
theorem sc36 : FnScope F36.N [("n" : Str), ("q" : Str)] (defScope (st 59)) := ⟨rfl, rfl, rfl, by decide +kernel, rfl, by decide +kernel, by decide +kernel⟩
theorem cc36 : cSs (cS G1 F36 (defScope (st 59)) 40 40) (defBody (st 59)) = some f36.body := by kernel_rfl
theorem ok36 : f36.ar = [("n" : Str), ("q" : Str)].length ∧ f36.ns = F36.N.length ∧ f36.ok = true := by decide +kernel
def F37 : Fr := ⟨[("a" : Str), ("b" : Str)], [], []⟩
theorem sc37 : FnScope F37.N [("a" : Str), ("b" : Str)] (defScope (st 61)) := ⟨rfl, rfl, rfl, by decide +kernel, rfl, by decide +kernel, by decide +kernel⟩
theorem cc37 : cSs (cS G1 F37 (defScope (st 61)) 40 40) (defBody (st 61)) = some f37.body := by kernel_rfl
theorem ok37 : f37.ar = [("a" : Str), ("b" : Str)].length ∧ f37.ns = F37.N.length ∧ f37.ok = true := by decide +kernel
def F38 : Fr := ⟨[("a" : Str), ("b" : Str)], [], []⟩
theorem sc38 : FnScope F38.N [("a" : Str), ("b" : Str)] (defScope (st 63)) := ⟨rfl, rfl, rfl, by decide +kernel, rfl, by decide +kernel, by decide +kernel⟩
theorem cc38 : cSs (cS G1 F38 (defScope (st 63)) 40 40) (defBody (st 63)) = some f38.body := by kernel_rfl
theorem ok38 : f38.ar = [("a" : Str), ("b" : Str)].length ∧ f38.ns = F38.N.length ∧ f38.ok = true := by decide +kernel
def F39 : Fr := ⟨[("a" : Str), ("b" : Str)], [], []⟩
theorem sc39 : FnScope F39.N [("a" : Str), ("b" : Str)] (defScope (st 65)) := ⟨rfl, rfl, rfl, by decide +kernel, rfl, by decide +kernel, by decide +kernel⟩
theorem cc39 : cSs (cS G1 F39 (defScope (st 65)) 40 40) (defBody (st 65)) = some f39.body := by kernel_rfl
theorem ok39 : f39.ar = [("a" : Str), ("b" : Str)].length ∧ f39.ns = F39.N.length ∧ f39.ok = true := by decide +kernel
def F40 : Fr := ⟨[("a" : Str), ("b" : Str), ("most" : Str), ("times" : Str)], [], []⟩
theorem sc40 : FnScope F40.N [("a" : Str), ("b" : Str)] (defScope (st 66)) := ⟨rfl, rfl, rfl, by decide +kernel, rfl, by decide +kernel, by decide +kernel⟩
theorem cc40 : cSs (cS G1 F40 (defScope (st 66)) 40 40) (defBody (st 66)) = some f40.body := by kernel_rfl
theorem ok40 : f40.ar = [("a" : Str), ("b" : Str)].length ∧ f40.ns = F40.N.length ∧ f40.ok = true := by decide +kernel
def F41 : Fr := ⟨[("script" : Str), ("cell" : Str)], [], []⟩
theorem sc41 : FnScope F41.N [("script" : Str)] (defScope (st 68)) := ⟨rfl, rfl, rfl, by decide +kernel, rfl, by decide +kernel, by decide +kernel⟩
theorem cc41 : cSs (cS G1 F41 (defScope (st 68)) 40 40) (defBody (st 68)) = some f41.body := by kernel_rfl
theorem ok41 : f41.ar = [("script" : Str)].length ∧ f41.ns = F41.N.length ∧ f41.ok = true := by decide +kernel
def F42 : Fr := ⟨[("cup" : Str), ("many" : Str), ("found" : Str), ("deep" : Str)], [0], []⟩
theorem sc42 : FnScope F42.N [("cup" : Str), ("many" : Str)] (defScope (st 69)) := ⟨rfl, rfl, rfl, by decide +kernel, rfl, by decide +kernel, by decide +kernel⟩
theorem cc42 : cSs (cS G1 F42 (defScope (st 69)) 40 40) (defBody (st 69)) = some f42.body := by kernel_rfl
theorem ok42 : f42.ar = [("cup" : Str), ("many" : Str)].length ∧ f42.ns = F42.N.length ∧ f42.ok = true := by decide +kernel
def F43 : Fr := ⟨[("value" : Str)], [], []⟩
theorem sc43 : FnScope F43.N [("value" : Str)] (defScope (st 70)) := ⟨rfl, rfl, rfl, by decide +kernel, rfl, by decide +kernel, by decide +kernel⟩
theorem cc43 : cSs (cS G1 F43 (defScope (st 70)) 40 40) (defBody (st 70)) = some f43.body := by kernel_rfl
theorem ok43 : f43.ar = [("value" : Str)].length ∧ f43.ns = F43.N.length ∧ f43.ok = true := by decide +kernel
def F44 : Fr := ⟨[("one" : Str), ("other" : Str), ("sort" : Str), ("first" : Str), ("second" : Str)], [], []⟩
theorem sc44 : FnScope F44.N [("one" : Str), ("other" : Str)] (defScope (st 71)) := ⟨rfl, rfl, rfl, by decide +kernel, rfl, by decide +kernel, by decide +kernel⟩
theorem cc44 : cSs (cS G1 F44 (defScope (st 71)) 40 40) (defBody (st 71)) = some f44.body := by kernel_rfl
theorem ok44 : f44.ar = [("one" : Str), ("other" : Str)].length ∧ f44.ns = F44.N.length ∧ f44.ok = true := by decide +kernel
def F45 : Fr := ⟨[("moves" : Str), ("start" : Str), ("found" : Str), ("turn" : Str), ("here" : Str), ("rows" : Str), ("at" : Str), ("later" : Str)], [], []⟩
theorem sc45 : FnScope F45.N [("moves" : Str), ("start" : Str)] (defScope (st 72)) := ⟨rfl, rfl, rfl, by decide +kernel, rfl, by decide +kernel, by decide +kernel⟩
theorem cc45 : cSs (cS G1 F45 (defScope (st 72)) 40 40) (defBody (st 72)) = some f45.body := by kernel_rfl
theorem ok45 : f45.ar = [("moves" : Str), ("start" : Str)].length ∧ f45.ns = F45.N.length ∧ f45.ok = true := by decide +kernel
def F46 : Fr := ⟨[("moves" : Str), ("start" : Str), ("is_lost_v" : Str), ("found" : Str), ("arrows" : Str), ("kinds" : Str), ("here" : Str), ("due" : Str), ("ranks" : Str), ("at" : Str), ("later" : Str), ("corner" : Str), ("own" : Str)], [], []⟩
theorem sc46 : FnScope F46.N [("moves" : Str), ("start" : Str), ("is_lost_v" : Str)] (defScope (st 73)) := ⟨rfl, rfl, rfl, by decide +kernel, rfl, by decide +kernel, by decide +kernel⟩
theorem cc46 : cSs (cS G1 F46 (defScope (st 73)) 40 40) (defBody (st 73)) = some f46.body := by kernel_rfl
theorem ok46 : f46.ar = [("moves" : Str), ("start" : Str), ("is_lost_v" : Str)].length ∧ f46.ns = F46.N.length ∧ f46.ok = true := by decide +kernel
def F47 : Fr := ⟨[("cup" : Str), ("takings" : Str), ("heap" : Str), ("moves" : Str), ("lost" : Str), ("wins" : Str), ("turn" : Str), ("own" : Str), ("taken" : Str)], [0], []⟩
theorem sc47 : FnScope F47.N [("cup" : Str)] (defScope (st 74)) := ⟨rfl, rfl, rfl, by decide +kernel, rfl, by decide +kernel, by decide +kernel⟩
theorem cc47 : cSs (cS G1 F47 (defScope (st 74)) 40 40) (defBody (st 74)) = some f47.body := by kernel_rfl
theorem ok47 : f47.ar = [("cup" : Str)].length ∧ f47.ns = F47.N.length ∧ f47.ok = true := by decide +kernel
def F48 : Fr := ⟨[("cup" : Str), ("a" : Str), ("b" : Str), ("moves" : Str), ("lost" : Str), ("one" : Str), ("other" : Str), ("some" : Str), ("move" : Str), ("taken" : Str), ("pair" : Str)], [0, 3, 4], [3, 4]⟩
theorem sc48 : FnScope F48.N [("cup" : Str)] (defScope (st 75)) := ⟨rfl, rfl, rfl, by decide +kernel, rfl, by decide +kernel, by decide +kernel⟩
theorem cc48 : cSs (cS G1 F48 (defScope (st 75)) 40 40) (defBody (st 75)) = some f48.body := by kernel_rfl
theorem ok48 : f48.ar = [("cup" : Str)].length ∧ f48.ns = F48.N.length ∧ f48.ok = true := by decide +kernel
def F49 : Fr := ⟨[("cup" : Str), ("a" : Str), ("b" : Str), ("start" : Str), ("moves" : Str), ("lost" : Str), ("line" : Str), ("turn" : Str), ("one" : Str), ("other" : Str), ("some" : Str), ("wins" : Str), ("taken" : Str), ("pair" : Str), ("at" : Str)], [0, 4, 5], [4, 5]⟩
theorem sc49 : FnScope F49.N [("cup" : Str)] (defScope (st 76)) := ⟨rfl, rfl, rfl, by decide +kernel, rfl, by decide +kernel, by decide +kernel⟩
theorem cc49 : cSs (cS G1 F49 (defScope (st 76)) 40 40) (defBody (st 76)) = some f49.body := by kernel_rfl
theorem ok49 : f49.ar = [("cup" : Str)].length ∧ f49.ns = F49.N.length ∧ f49.ok = true := by decide +kernel
def F50 : Fr := ⟨[("cup" : Str), ("start" : Str), ("moves" : Str), ("lost" : Str), ("line" : Str), ("turn" : Str), ("n" : Str), ("q" : Str), ("taken" : Str), ("pair" : Str)], [0, 2, 3], [2, 3]⟩
theorem sc50 : FnScope F50.N [("cup" : Str)] (defScope (st 77)) := ⟨rfl, rfl, rfl, by decide +kernel, rfl, by decide +kernel, by decide +kernel⟩
theorem cc50 : cSs (cS G1 F50 (defScope (st 77)) 40 40) (defBody (st 77)) = some f50.body := by kernel_rfl
theorem ok50 : f50.ar = [("cup" : Str)].length ∧ f50.ns = F50.N.length ∧ f50.ok = true := by decide +kernel
def F51 : Fr := ⟨[("script" : Str), ("cup" : Str), ("turn" : Str), ("found" : Str), ("arrows" : Str), ("told" : Str), ("due" : Str), ("corner" : Str)], [1], []⟩
theorem sc51 : FnScope F51.N [("script" : Str)] (defScope (st 78)) := ⟨rfl, rfl, rfl, by decide +kernel, rfl, by decide +kernel, by decide +kernel⟩
theorem cc51 : cSs (cS G1 F51 (defScope (st 78)) 40 40) (defBody (st 78)) = some f51.body := by kernel_rfl
theorem ok51 : f51.ar = [("script" : Str)].length ∧ f51.ns = F51.N.length ∧ f51.ok = true := by decide +kernel
theorem da0 {K : PySem.W.Frag} {mg : Str → Option Value} {g : Addr} (D : DF K ("is_whole" : Str) (st 8) g) : ∃ fd, DefAt K mg G1 P 0 g fd [("value" : Str), ("low" : Str), ("high" : Str)] F0.N := by
  obtain ⟨oc, od, kV, dc, pm, an, cd, ct, sl, l, c, k⟩ := D.ex
  have FF := fun_mk (st := st 8) l c k
  exact ⟨_, defAt_mk FF sc0 rfl ok0 cc0 (FF.binds fun _ _ _ _ _ _ us hl => match us, hl with | [_, _, _], _ => rfl)⟩
theorem da1 {K : PySem.W.Frag} {mg : Str → Option Value} {g : Addr} (D : DF K ("need_whole" : Str) (st 9) g) : ∃ fd, DefAt K mg G1 P 1 g fd [("value" : Str), ("low" : Str), ("high" : Str)] F1.N := by
  obtain ⟨oc, od, kV, dc, pm, an, cd, ct, sl, l, c, k⟩ := D.ex
  have FF := fun_mk (st := st 9) l c k
  exact ⟨_, defAt_mk FF sc1 rfl ok1 cc1 (FF.binds fun _ _ _ _ _ _ us hl => match us, hl with | [_, _, _], _ => rfl)⟩
theorem da2 {K : PySem.W.Frag} {mg : Str → Option Value} {g : Addr} (D : DF K ("is_tuple_of" : Str) (st 10) g) : ∃ fd, DefAt K mg G1 P 2 g fd [("value" : Str), ("low" : Str), ("high" : Str)] F2.N := by
  obtain ⟨oc, od, kV, dc, pm, an, cd, ct, sl, l, c, k⟩ := D.ex
  have FF := fun_mk (st := st 10) l c k
  exact ⟨_, defAt_mk FF sc2 rfl ok2 cc2 (FF.binds fun _ _ _ _ _ _ us hl => match us, hl with | [_, _, _], _ => rfl)⟩
theorem da3 {K : PySem.W.Frag} {mg : Str → Option Value} {g : Addr} (D : DF K ("is_ascending" : Str) (st 11) g) : ∃ fd, DefAt K mg G1 P 3 g fd [("values" : Str)] F3.N := by
  obtain ⟨oc, od, kV, dc, pm, an, cd, ct, sl, l, c, k⟩ := D.ex
  have FF := fun_mk (st := st 11) l c k
  exact ⟨_, defAt_mk FF sc3 rfl ok3 cc3 (FF.binds fun _ _ _ _ _ _ us hl => match us, hl with | [_], _ => rfl)⟩
theorem da4 {K : PySem.W.Frag} {mg : Str → Option Value} {g : Addr} (D : DF K ("are_wholes" : Str) (st 12) g) : ∃ fd, DefAt K mg G1 P 4 g fd [("value" : Str), ("many" : Str), ("low" : Str), ("high" : Str)] F4.N := by
  obtain ⟨oc, od, kV, dc, pm, an, cd, ct, sl, l, c, k⟩ := D.ex
  have FF := fun_mk (st := st 12) l c k
  exact ⟨_, defAt_mk FF sc4 rfl ok4 cc4 (FF.binds fun _ _ _ _ _ _ us hl => match us, hl with | [_, _, _, _], _ => rfl)⟩
theorem da5 {K : PySem.W.Frag} {mg : Str → Option Value} {g : Addr} (D : DF K ("fits_arrows" : Str) (st 16) g) : ∃ fd, DefAt K mg G1 P 5 g fd [("value" : Str)] F5.N := by
  obtain ⟨oc, od, kV, dc, pm, an, cd, ct, sl, l, c, k⟩ := D.ex
  have FF := fun_mk (st := st 16) l c k
  exact ⟨_, defAt_mk FF sc5 rfl ok5 cc5 (FF.binds fun _ _ _ _ _ _ us hl => match us, hl with | [_], _ => rfl)⟩
theorem da6 {K : PySem.W.Frag} {mg : Str → Option Value} {g : Addr} (D : DF K ("need_arrows" : Str) (st 17) g) : ∃ fd, DefAt K mg G1 P 6 g fd [("value" : Str)] F6.N := by
  obtain ⟨oc, od, kV, dc, pm, an, cd, ct, sl, l, c, k⟩ := D.ex
  have FF := fun_mk (st := st 17) l c k
  exact ⟨_, defAt_mk FF sc6 rfl ok6 cc6 (FF.binds fun _ _ _ _ _ _ us hl => match us, hl with | [_], _ => rfl)⟩
theorem da7 {K : PySem.W.Frag} {mg : Str → Option Value} {g : Addr} (D : DF K ("ends_from" : Str) (st 18) g) : ∃ fd, DefAt K mg G1 P 7 g fd [("arrows" : Str)] F7.N := by
  obtain ⟨oc, od, kV, dc, pm, an, cd, ct, sl, l, c, k⟩ := D.ex
  have FF := fun_mk (st := st 18) l c k
  exact ⟨_, defAt_mk FF sc7 rfl ok7 cc7 (FF.binds fun _ _ _ _ _ _ us hl => match us, hl with | [_], _ => rfl)⟩
theorem da8 {K : PySem.W.Frag} {mg : Str → Option Value} {g : Addr} (D : DF K ("ranks_in" : Str) (st 19) g) : ∃ fd, DefAt K mg G1 P 8 g fd [("arrows" : Str)] F8.N := by
  obtain ⟨oc, od, kV, dc, pm, an, cd, ct, sl, l, c, k⟩ := D.ex
  have FF := fun_mk (st := st 19) l c k
  exact ⟨_, defAt_mk FF sc8 rfl ok8 cc8 (FF.binds fun _ _ _ _ _ _ us hl => match us, hl with | [_], _ => rfl)⟩
theorem da9 {K : PySem.W.Frag} {mg : Str → Option Value} {g : Addr} (D : DF K ("kind_of" : Str) (st 20) g) : ∃ fd, DefAt K mg G1 P 9 g fd [("rank" : Str)] F9.N := by
  obtain ⟨oc, od, kV, dc, pm, an, cd, ct, sl, l, c, k⟩ := D.ex
  have FF := fun_mk (st := st 20) l c k
  exact ⟨_, defAt_mk FF sc9 rfl ok9 cc9 (FF.binds fun _ _ _ _ _ _ us hl => match us, hl with | [_], _ => rfl)⟩
theorem da10 {K : PySem.W.Frag} {mg : Str → Option Value} {g : Addr} (D : DF K ("fits_ranks" : Str) (st 21) g) : ∃ fd, DefAt K mg G1 P 10 g fd [("rank" : Str), ("ranks" : Str)] F10.N := by
  obtain ⟨oc, od, kV, dc, pm, an, cd, ct, sl, l, c, k⟩ := D.ex
  have FF := fun_mk (st := st 21) l c k
  exact ⟨_, defAt_mk FF sc10 rfl ok10 cc10 (FF.binds fun _ _ _ _ _ _ us hl => match us, hl with | [_, _], _ => rfl)⟩
theorem da11 {K : PySem.W.Frag} {mg : Str → Option Value} {g : Addr} (D : DF K ("are_arrows" : Str) (st 22) g) : ∃ fd, DefAt K mg G1 P 11 g fd [("value" : Str)] F11.N := by
  obtain ⟨oc, od, kV, dc, pm, an, cd, ct, sl, l, c, k⟩ := D.ex
  have FF := fun_mk (st := st 22) l c k
  exact ⟨_, defAt_mk FF sc11 rfl ok11 cc11 (FF.binds fun _ _ _ _ _ _ us hl => match us, hl with | [_], _ => rfl)⟩
theorem da12 {K : PySem.W.Frag} {mg : Str → Option Value} {g : Addr} (D : DF K ("kind_at" : Str) (st 23) g) : ∃ fd, DefAt K mg G1 P 12 g fd [("arrows" : Str), ("corner" : Str)] F12.N := by
  obtain ⟨oc, od, kV, dc, pm, an, cd, ct, sl, l, c, k⟩ := D.ex
  have FF := fun_mk (st := st 23) l c k
  exact ⟨_, defAt_mk FF sc12 rfl ok12 cc12 (FF.binds fun _ _ _ _ _ _ us hl => match us, hl with | [_, _], _ => rfl)⟩
theorem da13 {K : PySem.W.Frag} {mg : Str → Option Value} {g : Addr} (D : DF K ("ranks_of" : Str) (st 24) g) : ∃ fd, DefAt K mg G1 P 13 g fd [("arrows" : Str)] F13.N := by
  obtain ⟨oc, od, kV, dc, pm, an, cd, ct, sl, l, c, k⟩ := D.ex
  have FF := fun_mk (st := st 24) l c k
  exact ⟨_, defAt_mk FF sc13 rfl ok13 cc13 (FF.binds fun _ _ _ _ _ _ us hl => match us, hl with | [_], _ => rfl)⟩
theorem da14 {K : PySem.W.Frag} {mg : Str → Option Value} {g : Addr} (D : DF K ("is_rank_row" : Str) (st 25) g) : ∃ fd, DefAt K mg G1 P 14 g fd [("arrows" : Str), ("value" : Str)] F14.N := by
  obtain ⟨oc, od, kV, dc, pm, an, cd, ct, sl, l, c, k⟩ := D.ex
  have FF := fun_mk (st := st 25) l c k
  exact ⟨_, defAt_mk FF sc14 rfl ok14 cc14 (FF.binds fun _ _ _ _ _ _ us hl => match us, hl with | [_, _], _ => rfl)⟩
theorem da15 {K : PySem.W.Frag} {mg : Str → Option Value} {g : Addr} (D : DF K ("joined" : Str) (st 27) g) : ∃ fd, DefAt K mg G1 P 15 g fd [("numbers" : Str)] F15.N := by
  obtain ⟨oc, od, kV, dc, pm, an, cd, ct, sl, l, c, k⟩ := D.ex
  have FF := fun_mk (st := st 27) l c k
  exact ⟨_, defAt_mk FF sc15 rfl ok15 cc15 (FF.binds fun _ _ _ _ _ _ us hl => match us, hl with | [_], _ => rfl)⟩
theorem da16 {K : PySem.W.Frag} {mg : Str → Option Value} {g : Addr} (D : DF K ("missing_in" : Str) (st 28) g) : ∃ fd, DefAt K mg G1 P 16 g fd [("numbers" : Str)] F16.N := by
  obtain ⟨oc, od, kV, dc, pm, an, cd, ct, sl, l, c, k⟩ := D.ex
  have FF := fun_mk (st := st 28) l c k
  exact ⟨_, defAt_mk FF sc16 rfl ok16 cc16 (FF.binds fun _ _ _ _ _ _ us hl => match us, hl with | [_], _ => rfl)⟩
theorem da17 {K : PySem.W.Frag} {mg : Str → Option Value} {g : Addr} (D : DF K ("fit_takings" : Str) (st 35) g) : ∃ fd, DefAt K mg G1 P 17 g fd [("value" : Str)] F17.N := by
  obtain ⟨oc, od, kV, dc, pm, an, cd, ct, sl, l, c, k⟩ := D.ex
  have FF := fun_mk (st := st 35) l c k
  exact ⟨_, defAt_mk FF sc17 rfl ok17 cc17 (FF.binds fun _ _ _ _ _ _ us hl => match us, hl with | [_], _ => rfl)⟩
theorem da18 {K : PySem.W.Frag} {mg : Str → Option Value} {g : Addr} (D : DF K ("need_takings" : Str) (st 36) g) : ∃ fd, DefAt K mg G1 P 18 g fd [("value" : Str)] F18.N := by
  obtain ⟨oc, od, kV, dc, pm, an, cd, ct, sl, l, c, k⟩ := D.ex
  have FF := fun_mk (st := st 36) l c k
  exact ⟨_, defAt_mk FF sc18 rfl ok18 cc18 (FF.binds fun _ _ _ _ _ _ us hl => match us, hl with | [_], _ => rfl)⟩
theorem da19 {K : PySem.W.Frag} {mg : Str → Option Value} {g : Addr} (D : DF K ("need_few" : Str) (st 37) g) : ∃ fd, DefAt K mg G1 P 19 g fd [("value" : Str), ("most" : Str)] F19.N := by
  obtain ⟨oc, od, kV, dc, pm, an, cd, ct, sl, l, c, k⟩ := D.ex
  have FF := fun_mk (st := st 37) l c k
  exact ⟨_, defAt_mk FF sc19 rfl ok19 cc19 (FF.binds fun _ _ _ _ _ _ us hl => match us, hl with | [_, _], _ => rfl)⟩
theorem da20 {K : PySem.W.Frag} {mg : Str → Option Value} {g : Addr} (D : DF K ("numbers_to" : Str) (st 38) g) : ∃ fd, DefAt K mg G1 P 20 g fd [("takings" : Str), ("n" : Str)] F20.N := by
  obtain ⟨oc, od, kV, dc, pm, an, cd, ct, sl, l, c, k⟩ := D.ex
  have FF := fun_mk (st := st 38) l c k
  exact ⟨_, defAt_mk FF sc20 rfl ok20 cc20 (FF.binds fun _ _ _ _ _ _ us hl => match us, hl with | [_, _], _ => rfl)⟩
theorem da21 {K : PySem.W.Frag} {mg : Str → Option Value} {g : Addr} (D : DF K ("numbers_of" : Str) (st 39) g) : ∃ fd, DefAt K mg G1 P 21 g fd [("takings" : Str), ("heaps" : Str)] F21.N := by
  obtain ⟨oc, od, kV, dc, pm, an, cd, ct, sl, l, c, k⟩ := D.ex
  have FF := fun_mk (st := st 39) l c k
  exact ⟨_, defAt_mk FF sc21 rfl ok21 cc21 (FF.binds fun _ _ _ _ _ _ us hl => match us, hl with | [_, _], _ => rfl)⟩
theorem da22 {K : PySem.W.Frag} {mg : Str → Option Value} {g : Addr} (D : DF K ("heaps_lost" : Str) (st 40) g) : ∃ fd, DefAt K mg G1 P 22 g fd [("takings" : Str), ("heaps" : Str)] F22.N := by
  obtain ⟨oc, od, kV, dc, pm, an, cd, ct, sl, l, c, k⟩ := D.ex
  have FF := fun_mk (st := st 40) l c k
  exact ⟨_, defAt_mk FF sc22 rfl ok22 cc22 (FF.binds fun _ _ _ _ _ _ us hl => match us, hl with | [_, _], _ => rfl)⟩
theorem da23 {K : PySem.W.Frag} {mg : Str → Option Value} {g : Addr} (D : DF K ("winning_takes" : Str) (st 41) g) : ∃ fd, DefAt K mg G1 P 23 g fd [("takings" : Str), ("heaps" : Str)] F23.N := by
  obtain ⟨oc, od, kV, dc, pm, an, cd, ct, sl, l, c, k⟩ := D.ex
  have FF := fun_mk (st := st 41) l c k
  exact ⟨_, defAt_mk FF sc23 rfl ok23 cc23 (FF.binds fun _ _ _ _ _ _ us hl => match us, hl with | [_, _], _ => rfl)⟩
theorem da24 {K : PySem.W.Frag} {mg : Str → Option Value} {g : Addr} (D : DF K ("root_of" : Str) (st 43) g) : ∃ fd, DefAt K mg G1 P 24 g fd [("number" : Str)] F24.N := by
  obtain ⟨oc, od, kV, dc, pm, an, cd, ct, sl, l, c, k⟩ := D.ex
  have FF := fun_mk (st := st 43) l c k
  exact ⟨_, defAt_mk FF sc24 rfl ok24 cc24 (FF.binds fun _ _ _ _ _ _ us hl => match us, hl with | [_], _ => rfl)⟩
theorem da25 {K : PySem.W.Frag} {mg : Str → Option Value} {g : Addr} (D : DF K ("lesser_of" : Str) (st 44) g) : ∃ fd, DefAt K mg G1 P 25 g fd [("d" : Str)] F25.N := by
  obtain ⟨oc, od, kV, dc, pm, an, cd, ct, sl, l, c, k⟩ := D.ex
  have FF := fun_mk (st := st 44) l c k
  exact ⟨_, defAt_mk FF sc25 rfl ok25 cc25 (FF.binds fun _ _ _ _ _ _ us hl => match us, hl with | [_], _ => rfl)⟩
theorem da26 {K : PySem.W.Frag} {mg : Str → Option Value} {g : Addr} (D : DF K ("is_lost" : Str) (st 45) g) : ∃ fd, DefAt K mg G1 P 26 g fd [("a" : Str), ("b" : Str)] F26.N := by
  obtain ⟨oc, od, kV, dc, pm, an, cd, ct, sl, l, c, k⟩ := D.ex
  have FF := fun_mk (st := st 45) l c k
  exact ⟨_, defAt_mk FF sc26 rfl ok26 cc26 (FF.binds fun _ _ _ _ _ _ us hl => match us, hl with | [_, _], _ => rfl)⟩
theorem da27 {K : PySem.W.Frag} {mg : Str → Option Value} {g : Addr} (D : DF K ("partner_of" : Str) (st 47) g) : ∃ fd, DefAt K mg G1 P 27 g fd [("number" : Str)] F27.N := by
  obtain ⟨oc, od, kV, dc, pm, an, cd, ct, sl, l, c, k⟩ := D.ex
  have FF := fun_mk (st := st 47) l c k
  exact ⟨_, defAt_mk FF sc27 rfl ok27 cc27 (FF.binds fun _ _ _ _ _ _ us hl => match us, hl with | [_], _ => rfl)⟩
theorem da28 {K : PySem.W.Frag} {mg : Str → Option Value} {g : Addr} (D : DF K ("need_both" : Str) (st 48) g) : ∃ fd, DefAt K mg G1 P 28 g fd [("a" : Str), ("b" : Str)] F28.N := by
  obtain ⟨oc, od, kV, dc, pm, an, cd, ct, sl, l, c, k⟩ := D.ex
  have FF := fun_mk (st := st 48) l c k
  exact ⟨_, defAt_mk FF sc28 rfl ok28 cc28 (FF.binds fun _ _ _ _ _ _ us hl => match us, hl with | [_, _], _ => rfl)⟩
theorem da29 {K : PySem.W.Frag} {mg : Str → Option Value} {g : Addr} (D : DF K ("both_lost" : Str) (st 50) g) : ∃ fd, DefAt K mg G1 P 29 g fd [("a" : Str), ("b" : Str)] F29.N := by
  obtain ⟨oc, od, kV, dc, pm, an, cd, ct, sl, l, c, k⟩ := D.ex
  have FF := fun_mk (st := st 50) l c k
  exact ⟨_, defAt_mk FF sc29 rfl ok29 cc29 (FF.binds fun _ _ _ _ _ _ us hl => match us, hl with | [_, _], _ => rfl)⟩
theorem da30 {K : PySem.W.Frag} {mg : Str → Option Value} {g : Addr} (D : DF K ("both_move" : Str) (st 51) g) : ∃ fd, DefAt K mg G1 P 30 g fd [("a" : Str), ("b" : Str)] F30.N := by
  obtain ⟨oc, od, kV, dc, pm, an, cd, ct, sl, l, c, k⟩ := D.ex
  have FF := fun_mk (st := st 51) l c k
  exact ⟨_, defAt_mk FF sc30 rfl ok30 cc30 (FF.binds fun _ _ _ _ _ _ us hl => match us, hl with | [_, _], _ => rfl)⟩
theorem da31 {K : PySem.W.Frag} {mg : Str → Option Value} {g : Addr} (D : DF K ("is_both_move" : Str) (st 52) g) : ∃ fd, DefAt K mg G1 P 31 g fd [("a" : Str), ("b" : Str), ("value" : Str)] F31.N := by
  obtain ⟨oc, od, kV, dc, pm, an, cd, ct, sl, l, c, k⟩ := D.ex
  have FF := fun_mk (st := st 52) l c k
  exact ⟨_, defAt_mk FF sc31 rfl ok31 cc31 (FF.binds fun _ _ _ _ _ _ us hl => match us, hl with | [_, _, _], _ => rfl)⟩
theorem da32 {K : PySem.W.Frag} {mg : Str → Option Value} {g : Addr} (D : DF K ("parts_in" : Str) (st 54) g) : ∃ fd, DefAt K mg G1 P 32 g fd [("n" : Str)] F32.N := by
  obtain ⟨oc, od, kV, dc, pm, an, cd, ct, sl, l, c, k⟩ := D.ex
  have FF := fun_mk (st := st 54) l c k
  exact ⟨_, defAt_mk FF sc32 rfl ok32 cc32 (FF.binds fun _ _ _ _ _ _ us hl => match us, hl with | [_], _ => rfl)⟩
theorem da33 {K : PySem.W.Frag} {mg : Str → Option Value} {g : Addr} (D : DF K ("takes_in" : Str) (st 55) g) : ∃ fd, DefAt K mg G1 P 33 g fd [("n" : Str), ("q" : Str)] F33.N := by
  obtain ⟨oc, od, kV, dc, pm, an, cd, ct, sl, l, c, k⟩ := D.ex
  have FF := fun_mk (st := st 55) l c k
  exact ⟨_, defAt_mk FF sc33 rfl ok33 cc33 (FF.binds fun _ _ _ _ _ _ us hl => match us, hl with | [_, _], _ => rfl)⟩
theorem da34 {K : PySem.W.Frag} {mg : Str → Option Value} {g : Addr} (D : DF K ("need_both" : Str) (st 56) g) : ∃ fd, DefAt K mg G1 P 34 g fd [("n" : Str), ("q" : Str)] F34.N := by
  obtain ⟨oc, od, kV, dc, pm, an, cd, ct, sl, l, c, k⟩ := D.ex
  have FF := fun_mk (st := st 56) l c k
  exact ⟨_, defAt_mk FF sc34 rfl ok34 cc34 (FF.binds fun _ _ _ _ _ _ us hl => match us, hl with | [_, _], _ => rfl)⟩
theorem da35 {K : PySem.W.Frag} {mg : Str → Option Value} {g : Addr} (D : DF K ("doubling_lost" : Str) (st 58) g) : ∃ fd, DefAt K mg G1 P 35 g fd [("n" : Str), ("q" : Str)] F35.N := by
  obtain ⟨oc, od, kV, dc, pm, an, cd, ct, sl, l, c, k⟩ := D.ex
  have FF := fun_mk (st := st 58) l c k
  exact ⟨_, defAt_mk FF sc35 rfl ok35 cc35 (FF.binds fun _ _ _ _ _ _ us hl => match us, hl with | [_, _], _ => rfl)⟩
theorem da36 {K : PySem.W.Frag} {mg : Str → Option Value} {g : Addr} (D : DF K ("doubling_takes" : Str) (st 59) g) : ∃ fd, DefAt K mg G1 P 36 g fd [("n" : Str), ("q" : Str)] F36.N := by
  obtain ⟨oc, od, kV, dc, pm, an, cd, ct, sl, l, c, k⟩ := D.ex
  have FF := fun_mk (st := st 59) l c k
  exact ⟨_, defAt_mk FF sc36 rfl ok36 cc36 (FF.binds fun _ _ _ _ _ _ us hl => match us, hl with | [_, _], _ => rfl)⟩
theorem da37 {K : PySem.W.Frag} {mg : Str → Option Value} {g : Addr} (D : DF K ("is_lost" : Str) (st 61) g) : ∃ fd, DefAt K mg G1 P 37 g fd [("a" : Str), ("b" : Str)] F37.N := by
  obtain ⟨oc, od, kV, dc, pm, an, cd, ct, sl, l, c, k⟩ := D.ex
  have FF := fun_mk (st := st 61) l c k
  exact ⟨_, defAt_mk FF sc37 rfl ok37 cc37 (FF.binds fun _ _ _ _ _ _ us hl => match us, hl with | [_, _], _ => rfl)⟩
theorem da38 {K : PySem.W.Frag} {mg : Str → Option Value} {g : Addr} (D : DF K ("need_both" : Str) (st 63) g) : ∃ fd, DefAt K mg G1 P 38 g fd [("a" : Str), ("b" : Str)] F38.N := by
  obtain ⟨oc, od, kV, dc, pm, an, cd, ct, sl, l, c, k⟩ := D.ex
  have FF := fun_mk (st := st 63) l c k
  exact ⟨_, defAt_mk FF sc38 rfl ok38 cc38 (FF.binds fun _ _ _ _ _ _ us hl => match us, hl with | [_, _], _ => rfl)⟩
theorem da39 {K : PySem.W.Frag} {mg : Str → Option Value} {g : Addr} (D : DF K ("euclid_lost" : Str) (st 65) g) : ∃ fd, DefAt K mg G1 P 39 g fd [("a" : Str), ("b" : Str)] F39.N := by
  obtain ⟨oc, od, kV, dc, pm, an, cd, ct, sl, l, c, k⟩ := D.ex
  have FF := fun_mk (st := st 65) l c k
  exact ⟨_, defAt_mk FF sc39 rfl ok39 cc39 (FF.binds fun _ _ _ _ _ _ us hl => match us, hl with | [_, _], _ => rfl)⟩
theorem da40 {K : PySem.W.Frag} {mg : Str → Option Value} {g : Addr} (D : DF K ("euclid_times" : Str) (st 66) g) : ∃ fd, DefAt K mg G1 P 40 g fd [("a" : Str), ("b" : Str)] F40.N := by
  obtain ⟨oc, od, kV, dc, pm, an, cd, ct, sl, l, c, k⟩ := D.ex
  have FF := fun_mk (st := st 66) l c k
  exact ⟨_, defAt_mk FF sc40 rfl ok40 cc40 (FF.binds fun _ _ _ _ _ _ us hl => match us, hl with | [_, _], _ => rfl)⟩
theorem da41 {K : PySem.W.Frag} {mg : Str → Option Value} {g : Addr} (D : DF K ("_law_cup" : Str) (st 68) g) : ∃ fd, DefAt K mg G1 P 41 g fd [("script" : Str)] F41.N := by
  obtain ⟨oc, od, kV, dc, pm, an, cd, ct, sl, l, c, k⟩ := D.ex
  have FF := fun_mk (st := st 68) l c k
  exact ⟨_, defAt_mk FF sc41 rfl ok41 cc41 (FF.binds fun _ _ _ _ _ _ us hl => match us, hl with | [_], _ => rfl)⟩
theorem da42 {K : PySem.W.Frag} {mg : Str → Option Value} {g : Addr} (D : DF K ("_law_roll" : Str) (st 69) g) : ∃ fd, DefAt K mg G1 P 42 g fd [("cup" : Str), ("many" : Str)] F42.N := by
  obtain ⟨oc, od, kV, dc, pm, an, cd, ct, sl, l, c, k⟩ := D.ex
  have FF := fun_mk (st := st 69) l c k
  exact ⟨_, defAt_mk FF sc42 rfl ok42 cc42 (FF.binds fun _ _ _ _ _ _ us hl => match us, hl with | [_, _], _ => rfl)⟩
theorem da43 {K : PySem.W.Frag} {mg : Str → Option Value} {g : Addr} (D : DF K ("_law_sort" : Str) (st 70) g) : ∃ fd, DefAt K mg G1 P 43 g fd [("value" : Str)] F43.N := by
  obtain ⟨oc, od, kV, dc, pm, an, cd, ct, sl, l, c, k⟩ := D.ex
  have FF := fun_mk (st := st 70) l c k
  exact ⟨_, defAt_mk FF sc43 rfl ok43 cc43 (FF.binds fun _ _ _ _ _ _ us hl => match us, hl with | [_], _ => rfl)⟩
theorem da44 {K : PySem.W.Frag} {mg : Str → Option Value} {g : Addr} (D : DF K ("_law_like" : Str) (st 71) g) : ∃ fd, DefAt K mg G1 P 44 g fd [("one" : Str), ("other" : Str)] F44.N := by
  obtain ⟨oc, od, kV, dc, pm, an, cd, ct, sl, l, c, k⟩ := D.ex
  have FF := fun_mk (st := st 71) l c k
  exact ⟨_, defAt_mk FF sc44 rfl ok44 cc44 (FF.binds fun _ _ _ _ _ _ us hl => match us, hl with | [_, _], _ => rfl)⟩
theorem da45 {K : PySem.W.Frag} {mg : Str → Option Value} {g : Addr} (D : DF K ("_law_arrows" : Str) (st 72) g) : ∃ fd, DefAt K mg G1 P 45 g fd [("moves" : Str), ("start" : Str)] F45.N := by
  obtain ⟨oc, od, kV, dc, pm, an, cd, ct, sl, l, c, k⟩ := D.ex
  have FF := fun_mk (st := st 72) l c k
  exact ⟨_, defAt_mk FF sc45 rfl ok45 cc45 (FF.binds fun _ _ _ _ _ _ us hl => match us, hl with | [_, _], _ => rfl)⟩
theorem da46 {K : PySem.W.Frag} {mg : Str → Option Value} {g : Addr} (D : DF K ("_law_right" : Str) (st 73) g) : ∃ fd, DefAt K mg G1 P 46 g fd [("moves" : Str), ("start" : Str), ("is_lost_v" : Str)] F46.N := by
  obtain ⟨oc, od, kV, dc, pm, an, cd, ct, sl, l, c, k⟩ := D.ex
  have FF := fun_mk (st := st 73) l c k
  exact ⟨_, defAt_mk FF sc46 rfl ok46 cc46 (FF.binds fun _ _ _ _ _ _ us hl => match us, hl with | [_, _, _], _ => rfl)⟩
theorem da47 {K : PySem.W.Frag} {mg : Str → Option Value} {g : Addr} (D : DF K ("_law_takings" : Str) (st 74) g) : ∃ fd, DefAt K mg G1 P 47 g fd [("cup" : Str)] F47.N := by
  obtain ⟨oc, od, kV, dc, pm, an, cd, ct, sl, l, c, k⟩ := D.ex
  have FF := fun_mk (st := st 74) l c k
  exact ⟨_, defAt_mk FF sc47 rfl ok47 cc47 (FF.binds fun _ _ _ _ _ _ us hl => match us, hl with | [_], _ => rfl)⟩
theorem da48 {K : PySem.W.Frag} {mg : Str → Option Value} {g : Addr} (D : DF K ("_law_both" : Str) (st 75) g) : ∃ fd, DefAt K mg G1 P 48 g fd [("cup" : Str)] F48.N := by
  obtain ⟨oc, od, kV, dc, pm, an, cd, ct, sl, l, c, k⟩ := D.ex
  have FF := fun_mk (st := st 75) l c k
  exact ⟨_, defAt_mk FF sc48 rfl ok48 cc48 (FF.binds fun _ _ _ _ _ _ us hl => match us, hl with | [_], _ => rfl)⟩
theorem da49 {K : PySem.W.Frag} {mg : Str → Option Value} {g : Addr} (D : DF K ("_law_euclid" : Str) (st 76) g) : ∃ fd, DefAt K mg G1 P 49 g fd [("cup" : Str)] F49.N := by
  obtain ⟨oc, od, kV, dc, pm, an, cd, ct, sl, l, c, k⟩ := D.ex
  have FF := fun_mk (st := st 76) l c k
  exact ⟨_, defAt_mk FF sc49 rfl ok49 cc49 (FF.binds fun _ _ _ _ _ _ us hl => match us, hl with | [_], _ => rfl)⟩
theorem da50 {K : PySem.W.Frag} {mg : Str → Option Value} {g : Addr} (D : DF K ("_law_doubling" : Str) (st 77) g) : ∃ fd, DefAt K mg G1 P 50 g fd [("cup" : Str)] F50.N := by
  obtain ⟨oc, od, kV, dc, pm, an, cd, ct, sl, l, c, k⟩ := D.ex
  have FF := fun_mk (st := st 77) l c k
  exact ⟨_, defAt_mk FF sc50 rfl ok50 cc50 (FF.binds fun _ _ _ _ _ _ us hl => match us, hl with | [_], _ => rfl)⟩
theorem da51 {K : PySem.W.Frag} {mg : Str → Option Value} {g : Addr} (D : DF K ("law" : Str) (st 78) g) : ∃ fd, DefAt K mg G1 P 51 g fd [("script" : Str)] F51.N := by
  obtain ⟨oc, od, kV, dc, pm, an, cd, ct, sl, l, c, k⟩ := D.ex
  have FF := fun_mk (st := st 78) l c k
  exact ⟨_, defAt_mk FF sc51 rfl ok51 cc51 (FF.binds fun _ _ _ _ _ _ us hl => match us, hl with | [_], _ => rfl)⟩
def lawS : S := (.seq (.for_ .rng1 (.cons (.cst (.int 5)) .nil) (.nm 2) (.seq (.ife (.or (.not (.call 47 (.pk 1 .nil))) (.or (.not (.call 48 (.pk 1 .nil))) (.or (.not (.call 49 (.pk 1 .nil))) (.not (.call 50 (.pk 1 .nil)))))) (.seq (.ret (.cst (.bool false))) .skip) .skip) .skip)) (.seq (.asg (.tp [3, 4]) (.call 45 (.cons (.prim .dispD (.cons (.cst (.int 0)) (.cons (.disp .nil) (.cons (.cst (.int 1)) (.cons (.disp (.cons (.cst (.int 0)) .nil)) (.cons (.cst (.int 2)) (.cons (.disp (.cons (.cst (.int 1)) (.cons (.cst (.int 0)) .nil))) (.cons (.cst (.int 3)) (.cons (.disp (.cons (.cst (.int 2)) (.cons (.cst (.int 1)) .nil))) (.cons (.cst (.int 4)) (.cons (.disp (.cons (.cst (.int 3)) (.cons (.cst (.int 2)) .nil))) .nil))))))))))) (.cons (.cst (.int 4)) .nil)))) (.seq (.asg (.nm 5) (.disp (.cons (.var 3) (.cons (.var 4) (.cons (.comp .rng1 (.cons (.cst (.int 5)) .nil) (.nm 7) .nil (.call 12 (.cons (.var 4) (.cons (.var 7) .nil)))) (.cons (.call 13 (.cons (.var 4) .nil)) (.cons (.call 12 (.cons (.prim .mkTup (.cons (.cst (.int 2)) (.cons (.prim .mkTup (.cons (.prim .mkTup (.cons (.cst (.int 0)) (.cons (.cst (.int 1)) .nil))) (.cons (.prim .mkTup (.cons (.cst (.int 1)) (.cons (.cst (.int 0)) .nil))) .nil))) .nil))) (.cons (.cst (.int 0)) .nil))) .nil))))))) (.seq (.asg (.nm 6) (.disp (.cons (.disp (.cons (.cst (.int 4)) (.cons (.cst (.int 3)) (.cons (.cst (.int 2)) (.cons (.cst (.int 1)) (.cons (.cst (.int 0)) .nil)))))) (.cons (.prim .mkTup (.cons (.cst (.int 5)) (.cons (.prim .mkTup (.cons (.prim .mkTup (.cons (.cst (.int 0)) (.cons (.cst (.int 1)) .nil))) (.cons (.prim .mkTup (.cons (.cst (.int 0)) (.cons (.cst (.int 2)) .nil))) (.cons (.prim .mkTup (.cons (.cst (.int 1)) (.cons (.cst (.int 2)) .nil))) (.cons (.prim .mkTup (.cons (.cst (.int 1)) (.cons (.cst (.int 3)) .nil))) (.cons (.prim .mkTup (.cons (.cst (.int 2)) (.cons (.cst (.int 3)) .nil))) (.cons (.prim .mkTup (.cons (.cst (.int 2)) (.cons (.cst (.int 4)) .nil))) (.cons (.prim .mkTup (.cons (.cst (.int 3)) (.cons (.cst (.int 4)) .nil))) .nil)))))))) .nil))) (.cons (.disp (.cons (.cst (.str ⟨#[119, 111, 110]⟩)) (.cons (.cst (.str ⟨#[108, 111, 115, 116]⟩)) (.cons (.cst (.str ⟨#[119, 111, 110]⟩)) (.cons (.cst (.str ⟨#[119, 111, 110]⟩)) (.cons (.cst (.str ⟨#[108, 111, 115, 116]⟩)) .nil)))))) (.cons (.prim .mkTup (.cons (.cst (.int 3)) (.cons (.cst (.int 2)) (.cons (.cst (.int 1)) (.cons (.cst (.int 1)) (.cons (.cst (.int 0)) .nil)))))) (.cons (.cst (.str ⟨#[111, 112, 101, 110]⟩)) .nil))))))) (.seq (.ret (.and (.call 44 (.cons (.var 5) (.cons (.var 6) .nil))) (.and (.prim (.isB true) (.cons (.call 29 (.cons (.cst (.int 1)) (.cons (.cst (.int 2)) .nil))) .nil)) (.and (.prim (.isB true) (.cons (.call 35 (.cons (.cst (.int 5)) (.cons (.cst (.int 1)) .nil))) .nil)) (.and (.prim (.isB true) (.cons (.call 39 (.cons (.cst (.int 3)) (.cons (.cst (.int 2)) .nil))) .nil)) (.prim (.isB false) (.cons (.call 22 (.cons (.prim .mkTup (.cons (.cst (.int 1)) (.cons (.cst (.int 2)) .nil))) (.cons (.prim .mkTup (.cons (.cst (.int 1)) .nil)) .nil))) .nil))))))) .skip)))))
theorem all_mk {l : PySem.W.OpenLaw} {w : World} {K : PySem.W.Frag} {h : Heap} {mg : Str → Option Value} {fa : Addr} (X : K.In h) (G : h.Ns mainGlobals mg) (hfa : mg "law" = some (.ref fa)) {g0 g1 g2 g3 g4 g5 g6 g7 g8 g9 g10 g11 g12 g13 g14 g15 g16 g17 g18 g19 g20 g21 g22 g23 g24 g25 g26 g27 g28 g29 g30 g31 g32 g33 g34 g35 g36 g37 g38 g39 g40 g41 g42 g43 g44 g45 g46 g47 g48 g49 g50 g51 : Addr}
    (a0 : PySem.W.nsIn K mainGlobals ("is_whole" : Str) = some (some (.ref g0)))
    (a1 : PySem.W.nsIn K mainGlobals ("need_whole" : Str) = some (some (.ref g1)))
    (a2 : PySem.W.nsIn K mainGlobals ("is_tuple_of" : Str) = some (some (.ref g2)))
    (a3 : PySem.W.nsIn K mainGlobals ("is_ascending" : Str) = some (some (.ref g3)))
    (a4 : PySem.W.nsIn K mainGlobals ("are_wholes" : Str) = some (some (.ref g4)))
    (a5 : PySem.W.nsIn K mainGlobals ("fits_arrows" : Str) = some (some (.ref g5)))
    (a6 : PySem.W.nsIn K mainGlobals ("need_arrows" : Str) = some (some (.ref g6)))
    (a7 : PySem.W.nsIn K mainGlobals ("ends_from" : Str) = some (some (.ref g7)))
    (a8 : PySem.W.nsIn K mainGlobals ("ranks_in" : Str) = some (some (.ref g8)))
    (a9 : PySem.W.nsIn K mainGlobals ("kind_of" : Str) = some (some (.ref g9)))
    (a10 : PySem.W.nsIn K mainGlobals ("fits_ranks" : Str) = some (some (.ref g10)))
    (a11 : PySem.W.nsIn K mainGlobals ("are_arrows" : Str) = some (some (.ref g11)))
    (a12 : PySem.W.nsIn K mainGlobals ("kind_at" : Str) = some (some (.ref g12)))
    (a13 : PySem.W.nsIn K mainGlobals ("ranks_of" : Str) = some (some (.ref g13)))
    (a14 : PySem.W.nsIn K mainGlobals ("is_rank_row" : Str) = some (some (.ref g14)))
    (a15 : PySem.W.nsIn K mainGlobals ("joined" : Str) = some (some (.ref g15)))
    (a16 : PySem.W.nsIn K mainGlobals ("missing_in" : Str) = some (some (.ref g16)))
    (a17 : PySem.W.nsIn K mainGlobals ("fit_takings" : Str) = some (some (.ref g17)))
    (a18 : PySem.W.nsIn K mainGlobals ("need_takings" : Str) = some (some (.ref g18)))
    (a19 : PySem.W.nsIn K mainGlobals ("need_few" : Str) = some (some (.ref g19)))
    (a20 : PySem.W.nsIn K mainGlobals ("numbers_to" : Str) = some (some (.ref g20)))
    (a21 : PySem.W.nsIn K mainGlobals ("numbers_of" : Str) = some (some (.ref g21)))
    (a22 : PySem.W.nsIn K mainGlobals ("heaps_lost" : Str) = some (some (.ref g22)))
    (a23 : PySem.W.nsIn K mainGlobals ("winning_takes" : Str) = some (some (.ref g23)))
    (a24 : PySem.W.nsIn K mainGlobals ("root_of" : Str) = some (some (.ref g24)))
    (a25 : PySem.W.nsIn K mainGlobals ("lesser_of" : Str) = some (some (.ref g25)))
    (a26 : PySem.W.nsIn K mainGlobals ("is_lost_bothheaps" : Str) = some (some (.ref g26)))
    (a27 : PySem.W.nsIn K mainGlobals ("partner_of" : Str) = some (some (.ref g27)))
    (a28 : PySem.W.nsIn K mainGlobals ("need_both_bothheaps" : Str) = some (some (.ref g28)))
    (a29 : PySem.W.nsIn K mainGlobals ("both_lost" : Str) = some (some (.ref g29)))
    (a30 : PySem.W.nsIn K mainGlobals ("both_move" : Str) = some (some (.ref g30)))
    (a31 : PySem.W.nsIn K mainGlobals ("is_both_move" : Str) = some (some (.ref g31)))
    (a32 : PySem.W.nsIn K mainGlobals ("parts_in" : Str) = some (some (.ref g32)))
    (a33 : PySem.W.nsIn K mainGlobals ("takes_in" : Str) = some (some (.ref g33)))
    (a34 : PySem.W.nsIn K mainGlobals ("need_both_doublings" : Str) = some (some (.ref g34)))
    (a35 : PySem.W.nsIn K mainGlobals ("doubling_lost" : Str) = some (some (.ref g35)))
    (a36 : PySem.W.nsIn K mainGlobals ("doubling_takes" : Str) = some (some (.ref g36)))
    (a37 : PySem.W.nsIn K mainGlobals ("is_lost" : Str) = some (some (.ref g37)))
    (a38 : PySem.W.nsIn K mainGlobals ("is_lost_euclids" : Str) = some (some (.ref g37)))
    (a39 : PySem.W.nsIn K mainGlobals ("need_both" : Str) = some (some (.ref g38)))
    (a40 : PySem.W.nsIn K mainGlobals ("need_both_euclids" : Str) = some (some (.ref g38)))
    (a41 : PySem.W.nsIn K mainGlobals ("euclid_lost" : Str) = some (some (.ref g39)))
    (a42 : PySem.W.nsIn K mainGlobals ("euclid_times" : Str) = some (some (.ref g40)))
    (a43 : PySem.W.nsIn K mainGlobals ("_law_cup" : Str) = some (some (.ref g41)))
    (a44 : PySem.W.nsIn K mainGlobals ("_law_roll" : Str) = some (some (.ref g42)))
    (a45 : PySem.W.nsIn K mainGlobals ("_law_sort" : Str) = some (some (.ref g43)))
    (a46 : PySem.W.nsIn K mainGlobals ("_law_like" : Str) = some (some (.ref g44)))
    (a47 : PySem.W.nsIn K mainGlobals ("_law_arrows" : Str) = some (some (.ref g45)))
    (a48 : PySem.W.nsIn K mainGlobals ("_law_right" : Str) = some (some (.ref g46)))
    (a49 : PySem.W.nsIn K mainGlobals ("_law_takings" : Str) = some (some (.ref g47)))
    (a50 : PySem.W.nsIn K mainGlobals ("_law_both" : Str) = some (some (.ref g48)))
    (a51 : PySem.W.nsIn K mainGlobals ("_law_euclid" : Str) = some (some (.ref g49)))
    (a52 : PySem.W.nsIn K mainGlobals ("_law_doubling" : Str) = some (some (.ref g50)))
    (a53 : PySem.W.nsIn K mainGlobals ("law" : Str) = some (some (.ref g51)))
    (d0 : DF K ("is_whole" : Str) (st 8) g0)
    (d1 : DF K ("need_whole" : Str) (st 9) g1)
    (d2 : DF K ("is_tuple_of" : Str) (st 10) g2)
    (d3 : DF K ("is_ascending" : Str) (st 11) g3)
    (d4 : DF K ("are_wholes" : Str) (st 12) g4)
    (d5 : DF K ("fits_arrows" : Str) (st 16) g5)
    (d6 : DF K ("need_arrows" : Str) (st 17) g6)
    (d7 : DF K ("ends_from" : Str) (st 18) g7)
    (d8 : DF K ("ranks_in" : Str) (st 19) g8)
    (d9 : DF K ("kind_of" : Str) (st 20) g9)
    (d10 : DF K ("fits_ranks" : Str) (st 21) g10)
    (d11 : DF K ("are_arrows" : Str) (st 22) g11)
    (d12 : DF K ("kind_at" : Str) (st 23) g12)
    (d13 : DF K ("ranks_of" : Str) (st 24) g13)
    (d14 : DF K ("is_rank_row" : Str) (st 25) g14)
    (d15 : DF K ("joined" : Str) (st 27) g15)
    (d16 : DF K ("missing_in" : Str) (st 28) g16)
    (d17 : DF K ("fit_takings" : Str) (st 35) g17)
    (d18 : DF K ("need_takings" : Str) (st 36) g18)
    (d19 : DF K ("need_few" : Str) (st 37) g19)
    (d20 : DF K ("numbers_to" : Str) (st 38) g20)
    (d21 : DF K ("numbers_of" : Str) (st 39) g21)
    (d22 : DF K ("heaps_lost" : Str) (st 40) g22)
    (d23 : DF K ("winning_takes" : Str) (st 41) g23)
    (d24 : DF K ("root_of" : Str) (st 43) g24)
    (d25 : DF K ("lesser_of" : Str) (st 44) g25)
    (d26 : DF K ("is_lost" : Str) (st 45) g26)
    (d27 : DF K ("partner_of" : Str) (st 47) g27)
    (d28 : DF K ("need_both" : Str) (st 48) g28)
    (d29 : DF K ("both_lost" : Str) (st 50) g29)
    (d30 : DF K ("both_move" : Str) (st 51) g30)
    (d31 : DF K ("is_both_move" : Str) (st 52) g31)
    (d32 : DF K ("parts_in" : Str) (st 54) g32)
    (d33 : DF K ("takes_in" : Str) (st 55) g33)
    (d34 : DF K ("need_both" : Str) (st 56) g34)
    (d35 : DF K ("doubling_lost" : Str) (st 58) g35)
    (d36 : DF K ("doubling_takes" : Str) (st 59) g36)
    (d37 : DF K ("is_lost" : Str) (st 61) g37)
    (d38 : DF K ("need_both" : Str) (st 63) g38)
    (d39 : DF K ("euclid_lost" : Str) (st 65) g39)
    (d40 : DF K ("euclid_times" : Str) (st 66) g40)
    (d41 : DF K ("_law_cup" : Str) (st 68) g41)
    (d42 : DF K ("_law_roll" : Str) (st 69) g42)
    (d43 : DF K ("_law_sort" : Str) (st 70) g43)
    (d44 : DF K ("_law_like" : Str) (st 71) g44)
    (d45 : DF K ("_law_arrows" : Str) (st 72) g45)
    (d46 : DF K ("_law_right" : Str) (st 73) g46)
    (d47 : DF K ("_law_takings" : Str) (st 74) g47)
    (d48 : DF K ("_law_both" : Str) (st 75) g48)
    (d49 : DF K ("_law_euclid" : Str) (st 76) g49)
    (d50 : DF K ("_law_doubling" : Str) (st 77) g50)
    (d51 : DF K ("law" : Str) (st 78) g51)
    {t0 : Tok} (v0 : PySem.W.nsIn K mainGlobals ("CORNERS" : Str) = some (some (.int 12 t0)))
    {t1 : Tok} (v1 : PySem.W.nsIn K mainGlobals ("RANK" : Str) = some (some (.int 1000 t1)))
    {t2 : Tok} (v2 : PySem.W.nsIn K mainGlobals ("MANY" : Str) = some (some (.int 12 t2)))
    {t3 : Tok} (v3 : PySem.W.nsIn K mainGlobals ("GREAT" : Str) = some (some (.int 1000000000000000000 t3)))
    {t4 : Tok} (v4 : PySem.W.nsIn K mainGlobals ("NEAR" : Str) = some (some (.int 20000 t4)))
    {t5 : Tok} (v5 : PySem.W.nsIn K mainGlobals ("SORTS" : Str) = some (some (.int 10 t5)))
    {t6 : Tok} (v6 : PySem.W.nsIn K mainGlobals ("TAKEN" : Str) = some (some (.int 60 t6)))
    (z0 : PySem.W.nsIn K mainGlobals ("len" : Str) = some none)
    (z1 : PySem.W.nsIn K mainGlobals ("abs" : Str) = some none)
    (z2 : PySem.W.nsIn K mainGlobals ("sum" : Str) = some none)
    (z3 : PySem.W.nsIn K mainGlobals ("all" : Str) = some none)
    (z4 : PySem.W.nsIn K mainGlobals ("any" : Str) = some none)
    (z5 : PySem.W.nsIn K mainGlobals ("sorted" : Str) = some none)
    (z6 : PySem.W.nsIn K mainGlobals ("max" : Str) = some none)
    (z7 : PySem.W.nsIn K mainGlobals ("min" : Str) = some none)
    (z8 : PySem.W.nsIn K mainGlobals ("isinstance" : Str) = some none)
    (z9 : PySem.W.nsIn K mainGlobals ("int" : Str) = some none)
    (z10 : PySem.W.nsIn K mainGlobals ("tuple" : Str) = some none)
    (z11 : PySem.W.nsIn K mainGlobals ("list" : Str) = some none)
    (z12 : PySem.W.nsIn K mainGlobals ("dict" : Str) = some none)
    (z13 : PySem.W.nsIn K mainGlobals ("range" : Str) = some none)
    (z14 : PySem.W.nsIn K mainGlobals ("set" : Str) = some none)
    (z15 : PySem.W.nsIn K mainGlobals ("enumerate" : Str) = some none)
    (z16 : PySem.W.nsIn K mainGlobals ("zip" : Str) = some none)
    (z17 : PySem.W.nsIn K mainGlobals ("bool" : Str) = some none)
    (z18 : PySem.W.nsIn K mainGlobals ("str" : Str) = some none)
    {N k : Nat} (hw : wpS (wpF P N k) N lawS (.none :: .cup :: (F51.N.drop 2).map fun _ => .none) lawKs = true) :
    ∃ fd : FuncData, (∀ (s : Shared) (v : Value), BindsTo s fd ⟨[v], []⟩ [(("script" : Str), v)]) ∧ ∀ base : Heap, K.In base → base.Ns mainGlobals mg → FnOk l.prog w K mg base CX0 (k + 2) fa fd ["script"] (spLaw K) := by
  have e := hfa.symm.trans (PySem.W.mg_of X G a53)
  cases e
  have hb : ∀ x ∈ bltNames, mg x = none := by
    intro x hx
    simp only [bltNames, List.mem_cons, List.not_mem_nil, or_false] at hx
    rcases hx with rfl | rfl | rfl | rfl | rfl | rfl | rfl | rfl | rfl | rfl | rfl | rfl | rfl | rfl | rfl | rfl | rfl | rfl | rfl
    · exact PySem.W.mg_none_of X G z0
    · exact PySem.W.mg_none_of X G z1
    · exact PySem.W.mg_none_of X G z2
    · exact PySem.W.mg_none_of X G z3
    · exact PySem.W.mg_none_of X G z4
    · exact PySem.W.mg_none_of X G z5
    · exact PySem.W.mg_none_of X G z6
    · exact PySem.W.mg_none_of X G z7
    · exact PySem.W.mg_none_of X G z8
    · exact PySem.W.mg_none_of X G z9
    · exact PySem.W.mg_none_of X G z10
    · exact PySem.W.mg_none_of X G z11
    · exact PySem.W.mg_none_of X G z12
    · exact PySem.W.mg_none_of X G z13
    · exact PySem.W.mg_none_of X G z14
    · exact PySem.W.mg_none_of X G z15
    · exact PySem.W.mg_none_of X G z16
    · exact PySem.W.mg_none_of X G z17
    · exact PySem.W.mg_none_of X G z18
  obtain ⟨e0, D0⟩ := da0 (mg := mg) d0
  obtain ⟨e1, D1⟩ := da1 (mg := mg) d1
  obtain ⟨e2, D2⟩ := da2 (mg := mg) d2
  obtain ⟨e3, D3⟩ := da3 (mg := mg) d3
  obtain ⟨e4, D4⟩ := da4 (mg := mg) d4
  obtain ⟨e5, D5⟩ := da5 (mg := mg) d5
  obtain ⟨e6, D6⟩ := da6 (mg := mg) d6
  obtain ⟨e7, D7⟩ := da7 (mg := mg) d7
  obtain ⟨e8, D8⟩ := da8 (mg := mg) d8
  obtain ⟨e9, D9⟩ := da9 (mg := mg) d9
  obtain ⟨e10, D10⟩ := da10 (mg := mg) d10
  obtain ⟨e11, D11⟩ := da11 (mg := mg) d11
  obtain ⟨e12, D12⟩ := da12 (mg := mg) d12
  obtain ⟨e13, D13⟩ := da13 (mg := mg) d13
  obtain ⟨e14, D14⟩ := da14 (mg := mg) d14
  obtain ⟨e15, D15⟩ := da15 (mg := mg) d15
  obtain ⟨e16, D16⟩ := da16 (mg := mg) d16
  obtain ⟨e17, D17⟩ := da17 (mg := mg) d17
  obtain ⟨e18, D18⟩ := da18 (mg := mg) d18
  obtain ⟨e19, D19⟩ := da19 (mg := mg) d19
  obtain ⟨e20, D20⟩ := da20 (mg := mg) d20
  obtain ⟨e21, D21⟩ := da21 (mg := mg) d21
  obtain ⟨e22, D22⟩ := da22 (mg := mg) d22
  obtain ⟨e23, D23⟩ := da23 (mg := mg) d23
  obtain ⟨e24, D24⟩ := da24 (mg := mg) d24
  obtain ⟨e25, D25⟩ := da25 (mg := mg) d25
  obtain ⟨e26, D26⟩ := da26 (mg := mg) d26
  obtain ⟨e27, D27⟩ := da27 (mg := mg) d27
  obtain ⟨e28, D28⟩ := da28 (mg := mg) d28
  obtain ⟨e29, D29⟩ := da29 (mg := mg) d29
  obtain ⟨e30, D30⟩ := da30 (mg := mg) d30
  obtain ⟨e31, D31⟩ := da31 (mg := mg) d31
  obtain ⟨e32, D32⟩ := da32 (mg := mg) d32
  obtain ⟨e33, D33⟩ := da33 (mg := mg) d33
  obtain ⟨e34, D34⟩ := da34 (mg := mg) d34
  obtain ⟨e35, D35⟩ := da35 (mg := mg) d35
  obtain ⟨e36, D36⟩ := da36 (mg := mg) d36
  obtain ⟨e37, D37⟩ := da37 (mg := mg) d37
  obtain ⟨e38, D38⟩ := da38 (mg := mg) d38
  obtain ⟨e39, D39⟩ := da39 (mg := mg) d39
  obtain ⟨e40, D40⟩ := da40 (mg := mg) d40
  obtain ⟨e41, D41⟩ := da41 (mg := mg) d41
  obtain ⟨e42, D42⟩ := da42 (mg := mg) d42
  obtain ⟨e43, D43⟩ := da43 (mg := mg) d43
  obtain ⟨e44, D44⟩ := da44 (mg := mg) d44
  obtain ⟨e45, D45⟩ := da45 (mg := mg) d45
  obtain ⟨e46, D46⟩ := da46 (mg := mg) d46
  obtain ⟨e47, D47⟩ := da47 (mg := mg) d47
  obtain ⟨e48, D48⟩ := da48 (mg := mg) d48
  obtain ⟨e49, D49⟩ := da49 (mg := mg) d49
  obtain ⟨e50, D50⟩ := da50 (mg := mg) d50
  obtain ⟨e51, D51⟩ := da51 (mg := mg) d51
  have M : ∀ base, ModOk l.prog w K mg base G1 P _ _ _ _ := fun base => modOk_mk (rows := [⟨g0, e0, [("value" : Str), ("low" : Str), ("high" : Str)], F0.N⟩, ⟨g1, e1, [("value" : Str), ("low" : Str), ("high" : Str)], F1.N⟩, ⟨g2, e2, [("value" : Str), ("low" : Str), ("high" : Str)], F2.N⟩, ⟨g3, e3, [("values" : Str)], F3.N⟩, ⟨g4, e4, [("value" : Str), ("many" : Str), ("low" : Str), ("high" : Str)], F4.N⟩, ⟨g5, e5, [("value" : Str)], F5.N⟩, ⟨g6, e6, [("value" : Str)], F6.N⟩, ⟨g7, e7, [("arrows" : Str)], F7.N⟩, ⟨g8, e8, [("arrows" : Str)], F8.N⟩, ⟨g9, e9, [("rank" : Str)], F9.N⟩, ⟨g10, e10, [("rank" : Str), ("ranks" : Str)], F10.N⟩, ⟨g11, e11, [("value" : Str)], F11.N⟩, ⟨g12, e12, [("arrows" : Str), ("corner" : Str)], F12.N⟩, ⟨g13, e13, [("arrows" : Str)], F13.N⟩, ⟨g14, e14, [("arrows" : Str), ("value" : Str)], F14.N⟩, ⟨g15, e15, [("numbers" : Str)], F15.N⟩, ⟨g16, e16, [("numbers" : Str)], F16.N⟩, ⟨g17, e17, [("value" : Str)], F17.N⟩, ⟨g18, e18, [("value" : Str)], F18.N⟩, ⟨g19, e19, [("value" : Str), ("most" : Str)], F19.N⟩, ⟨g20, e20, [("takings" : Str), ("n" : Str)], F20.N⟩, ⟨g21, e21, [("takings" : Str), ("heaps" : Str)], F21.N⟩, ⟨g22, e22, [("takings" : Str), ("heaps" : Str)], F22.N⟩, ⟨g23, e23, [("takings" : Str), ("heaps" : Str)], F23.N⟩, ⟨g24, e24, [("number" : Str)], F24.N⟩, ⟨g25, e25, [("d" : Str)], F25.N⟩, ⟨g26, e26, [("a" : Str), ("b" : Str)], F26.N⟩, ⟨g27, e27, [("number" : Str)], F27.N⟩, ⟨g28, e28, [("a" : Str), ("b" : Str)], F28.N⟩, ⟨g29, e29, [("a" : Str), ("b" : Str)], F29.N⟩, ⟨g30, e30, [("a" : Str), ("b" : Str)], F30.N⟩, ⟨g31, e31, [("a" : Str), ("b" : Str), ("value" : Str)], F31.N⟩, ⟨g32, e32, [("n" : Str)], F32.N⟩, ⟨g33, e33, [("n" : Str), ("q" : Str)], F33.N⟩, ⟨g34, e34, [("n" : Str), ("q" : Str)], F34.N⟩, ⟨g35, e35, [("n" : Str), ("q" : Str)], F35.N⟩, ⟨g36, e36, [("n" : Str), ("q" : Str)], F36.N⟩, ⟨g37, e37, [("a" : Str), ("b" : Str)], F37.N⟩, ⟨g38, e38, [("a" : Str), ("b" : Str)], F38.N⟩, ⟨g39, e39, [("a" : Str), ("b" : Str)], F39.N⟩, ⟨g40, e40, [("a" : Str), ("b" : Str)], F40.N⟩, ⟨g41, e41, [("script" : Str)], F41.N⟩, ⟨g42, e42, [("cup" : Str), ("many" : Str)], F42.N⟩, ⟨g43, e43, [("value" : Str)], F43.N⟩, ⟨g44, e44, [("one" : Str), ("other" : Str)], F44.N⟩, ⟨g45, e45, [("moves" : Str), ("start" : Str)], F45.N⟩, ⟨g46, e46, [("moves" : Str), ("start" : Str), ("is_lost_v" : Str)], F46.N⟩, ⟨g47, e47, [("cup" : Str)], F47.N⟩, ⟨g48, e48, [("cup" : Str)], F48.N⟩, ⟨g49, e49, [("cup" : Str)], F49.N⟩, ⟨g50, e50, [("cup" : Str)], F50.N⟩, ⟨fa, e51, [("script" : Str)], F51.N⟩]) ?hv hb ?hf ?hd ?hr
  case hv =>
    intro p hp
    simp only [G1, List.mem_cons, List.not_mem_nil, or_false] at hp
    rcases hp with rfl | rfl | rfl | rfl | rfl | rfl | rfl
    · exact val_int (PySem.W.mg_of X G v0)
    · exact val_int (PySem.W.mg_of X G v1)
    · exact val_int (PySem.W.mg_of X G v2)
    · exact val_int (PySem.W.mg_of X G v3)
    · exact val_int (PySem.W.mg_of X G v4)
    · exact val_int (PySem.W.mg_of X G v5)
    · exact val_int (PySem.W.mg_of X G v6)
  case hf =>
    intro p hp
    simp only [G1, List.mem_cons, List.not_mem_nil, or_false] at hp
    rcases hp with rfl | rfl | rfl | rfl | rfl | rfl | rfl | rfl | rfl | rfl | rfl | rfl | rfl | rfl | rfl | rfl | rfl | rfl | rfl | rfl | rfl | rfl | rfl | rfl | rfl | rfl | rfl | rfl | rfl | rfl | rfl | rfl | rfl | rfl | rfl | rfl | rfl | rfl | rfl | rfl | rfl | rfl | rfl | rfl | rfl | rfl | rfl | rfl | rfl | rfl | rfl | rfl | rfl
    · exact ⟨_, rfl, PySem.W.mg_of X G a0⟩
    · exact ⟨_, rfl, PySem.W.mg_of X G a1⟩
    · exact ⟨_, rfl, PySem.W.mg_of X G a2⟩
    · exact ⟨_, rfl, PySem.W.mg_of X G a3⟩
    · exact ⟨_, rfl, PySem.W.mg_of X G a4⟩
    · exact ⟨_, rfl, PySem.W.mg_of X G a5⟩
    · exact ⟨_, rfl, PySem.W.mg_of X G a6⟩
    · exact ⟨_, rfl, PySem.W.mg_of X G a7⟩
    · exact ⟨_, rfl, PySem.W.mg_of X G a8⟩
    · exact ⟨_, rfl, PySem.W.mg_of X G a9⟩
    · exact ⟨_, rfl, PySem.W.mg_of X G a10⟩
    · exact ⟨_, rfl, PySem.W.mg_of X G a11⟩
    · exact ⟨_, rfl, PySem.W.mg_of X G a12⟩
    · exact ⟨_, rfl, PySem.W.mg_of X G a13⟩
    · exact ⟨_, rfl, PySem.W.mg_of X G a14⟩
    · exact ⟨_, rfl, PySem.W.mg_of X G a15⟩
    · exact ⟨_, rfl, PySem.W.mg_of X G a16⟩
    · exact ⟨_, rfl, PySem.W.mg_of X G a17⟩
    · exact ⟨_, rfl, PySem.W.mg_of X G a18⟩
    · exact ⟨_, rfl, PySem.W.mg_of X G a19⟩
    · exact ⟨_, rfl, PySem.W.mg_of X G a20⟩
    · exact ⟨_, rfl, PySem.W.mg_of X G a21⟩
    · exact ⟨_, rfl, PySem.W.mg_of X G a22⟩
    · exact ⟨_, rfl, PySem.W.mg_of X G a23⟩
    · exact ⟨_, rfl, PySem.W.mg_of X G a24⟩
    · exact ⟨_, rfl, PySem.W.mg_of X G a25⟩
    · exact ⟨_, rfl, PySem.W.mg_of X G a26⟩
    · exact ⟨_, rfl, PySem.W.mg_of X G a27⟩
    · exact ⟨_, rfl, PySem.W.mg_of X G a28⟩
    · exact ⟨_, rfl, PySem.W.mg_of X G a29⟩
    · exact ⟨_, rfl, PySem.W.mg_of X G a30⟩
    · exact ⟨_, rfl, PySem.W.mg_of X G a31⟩
    · exact ⟨_, rfl, PySem.W.mg_of X G a32⟩
    · exact ⟨_, rfl, PySem.W.mg_of X G a33⟩
    · exact ⟨_, rfl, PySem.W.mg_of X G a34⟩
    · exact ⟨_, rfl, PySem.W.mg_of X G a35⟩
    · exact ⟨_, rfl, PySem.W.mg_of X G a36⟩
    · exact ⟨_, rfl, PySem.W.mg_of X G a37⟩
    · exact ⟨_, rfl, PySem.W.mg_of X G a38⟩
    · exact ⟨_, rfl, PySem.W.mg_of X G a39⟩
    · exact ⟨_, rfl, PySem.W.mg_of X G a40⟩
    · exact ⟨_, rfl, PySem.W.mg_of X G a41⟩
    · exact ⟨_, rfl, PySem.W.mg_of X G a42⟩
    · exact ⟨_, rfl, PySem.W.mg_of X G a43⟩
    · exact ⟨_, rfl, PySem.W.mg_of X G a45⟩
    · exact ⟨_, rfl, PySem.W.mg_of X G a46⟩
    · exact ⟨_, rfl, PySem.W.mg_of X G a47⟩
    · exact ⟨_, rfl, PySem.W.mg_of X G a48⟩
    · exact ⟨_, rfl, PySem.W.mg_of X G a49⟩
    · exact ⟨_, rfl, PySem.W.mg_of X G a50⟩
    · exact ⟨_, rfl, PySem.W.mg_of X G a51⟩
    · exact ⟨_, rfl, PySem.W.mg_of X G a52⟩
    · exact ⟨_, rfl, PySem.W.mg_of X G a53⟩
  case hd => exact .cons D0 (.cons D1 (.cons D2 (.cons D3 (.cons D4 (.cons D5 (.cons D6 (.cons D7 (.cons D8 (.cons D9 (.cons D10 (.cons D11 (.cons D12 (.cons D13 (.cons D14 (.cons D15 (.cons D16 (.cons D17 (.cons D18 (.cons D19 (.cons D20 (.cons D21 (.cons D22 (.cons D23 (.cons D24 (.cons D25 (.cons D26 (.cons D27 (.cons D28 (.cons D29 (.cons D30 (.cons D31 (.cons D32 (.cons D33 (.cons D34 (.cons D35 (.cons D36 (.cons D37 (.cons D38 (.cons D39 (.cons D40 (.cons D41 (.cons D42 (.cons D43 (.cons D44 (.cons D45 (.cons D46 (.cons D47 (.cons D48 (.cons D49 (.cons D50 (.cons D51 (.nil _))))))))))))))))))))))))))))))))))))))))))))))))))))
  case hr =>
    intro x hx
    cases hx
    obtain ⟨oc, od, kV, dc, pm, an, cd, ct, sl, l, c, k⟩ := d42.ex
    have FF := fun_mk (st := st 69) l c k
    exact ⟨_, _, _, roll_fn FF sc42 hb (by kernel_rfl), PySem.W.mg_of X G a44, k, FF.binds fun _ _ _ _ _ _ us hl => match us, hl with | [_, _], _ => rfl⟩
  obtain ⟨oc, od, kV, dc, pm, an, cd, ct, sl, l1, c1, k1⟩ := d41.ex
  have FC := fun_mk (st := st 68) l1 c1 k1
  obtain ⟨oc', od', kV', dc', pm', an', cd', ct', sl', l2, c2, k2⟩ := d51.ex
  have FL := fun_mk (st := st 78) l2 c2 k2
  refine ⟨_, fun s v => .of_eq rfl, fun base hK hG => law_fn (M base) FL rfl sc51 (cup_fn FC sc41 hb rfl rfl (by decide +kernel) (by kernel_rfl)) (PySem.W.mg_of X G a43) k1 (FC.binds fun _ _ _ _ _ _ us hl => match us, hl with | [_], _ => rfl) rfl rfl (by decide +kernel) (by kernel_rfl) hw⟩

end LK88
namespace LK88
open PySem G
/-! ### basics -/
section
variable {N k : Nat}
theorem s_is_whole (hk : 1 ≤ k) (v lo hi : Int) : evF P N k 0 [.val (.int v), .val (.int lo), .val (.int hi)] = some (.bool (decide (lo ≤ v) && decide (v ≤ hi)), [.val (.int v), .val (.int lo), .val (.int hi)]) := by
  obtain ⟨k, rfl, hj⟩ := exS hk
  refine ev_call p0 rfl ?_
  simp -implicitDefEqProofs [f0]
theorem s_is_whole_no (hk : 1 ≤ k) (v : AV) (h : (isTy .int v && !isTy .bool v) = false) (lo hi : AV) : evF P N k 0 [.val v, .val lo, .val hi] = some (.bool false, [.val v, .val lo, .val hi]) := by
  obtain ⟨k, rfl, hj⟩ := exS hk
  refine ev_call p0 rfl ?_
  simp -implicitDefEqProofs [f0]
  cases h1 : isTy .int v <;> simp [h1] at h ⊢
  simp [h]
theorem s_is_tuple_of (hk : 1 ≤ k) (xs : List AV) (lo hi : Int) : evF P N k 2 [.val (.tuple xs), .val (.int lo), .val (.int hi)] = some (.bool (decide (lo ≤ xs.length) && decide ((xs.length : Int) ≤ hi)), [.val (.tuple xs), .val (.int lo), .val (.int hi)]) := by
  obtain ⟨k, rfl, hj⟩ := exS hk
  refine ev_call p2 rfl ?_
  simp -implicitDefEqProofs [f2]
theorem s_is_ascending {α : Type} (hk : 1 ≤ k) (xs : List α) (e : α → AV) (lt : α → α → Bool) (hl : xs.length ≤ sz) (h : ∀ x ∈ xs, ∀ y ∈ xs, primS .lt [e x, e y] = some (.bool (lt x y))) :
    evF P N k 3 [.val (.tuple (xs.map e))] = some (.bool ((xs.zip (xs.drop 1)).all fun p => lt p.1 p.2), [.val (.tuple (xs.map e))]) := by
  obtain ⟨k, rfl, hj⟩ := exS hk
  refine ev_call p3 rfl ?_
  have h1 : primS (.slice true false) [.tuple (xs.map e), .int 1] = some (.tuple ((xs.drop 1).map e)) := by
    have := sl_tfT (xs := xs.map e) (n := 1); rw [← List.map_drop] at this; exact this
  simp -implicitDefEqProofs [f3]
  rw [ev_map [.tuple (xs.map e), .tuple ((xs.drop 1).map e)] (xs.zip (xs.drop 1)) (fun p => .tuple [e p.1, e p.2]) (fun p => .bool (lt p.1 p.2)) ?_ ?_ ?_ ?_ ?_]
  · simp
  · simp [h1]
  · rw [sq_zip rfl rfl, List.zip_map, List.map_map]; rfl
  · simp
  · simp; omega
  · intro p hp
    simp [h p.1 (List.of_mem_zip hp).1 p.2 (List.mem_of_mem_drop (List.of_mem_zip hp).2)]
theorem s_are_wholes (hk : 2 ≤ k) (xs : List Int) (m lo hi : Int) (hl : xs.length ≤ sz) : evF P N k 4 [.val (.tuple (xs.map .int)), .val (.int m), .val (.int lo), .val (.int hi)] =
    some (.bool (decide ((xs.length : Int) = m) && xs.all fun v => decide (lo ≤ v) && decide (v ≤ hi)), [.val (.tuple (xs.map .int)), .val (.int m), .val (.int lo), .val (.int hi)]) := by
  obtain ⟨k, rfl, hj⟩ := exS hk
  refine ev_call p4 rfl ?_
  simp -implicitDefEqProofs [f4, s_is_tuple_of hj]
  rw [ev_map [.tuple (xs.map .int)] xs .int (fun v => .bool (decide (lo ≤ v) && decide (v ≤ hi))) ?_ ?_ ?_ ?_ ?_]
  · simp
    by_cases h : m ≤ xs.length
    · by_cases h2 : (xs.length : Int) ≤ m
      · simp [h, h2, (by omega : (xs.length : Int) = m)]
      · simp [h, h2]; intro; omega
    · simp [h]; intro; omega
  · simp
  · simp
  · simp
  · exact hl
  · intro p hp
    simp [s_is_whole hj]
end
end LK88
namespace LK88
open PySem G
/-! ### arrowgames -/
section
open AR
variable {N k n : Nat} {rows : List (Nat × Nat)}
theorem s_fits_arrows (hk : 4 ≤ k) (A : AOk n rows) : evF P N k 5 [.val (encA n rows)] = some (.bool true, [.val (encA n rows)]) := by
  obtain ⟨k, rfl, hj⟩ := exS hk
  refine ev_call p5 rfl ?_
  unfold encA
  have a1 : (1 : Int) ≤ n := by have := A.pos; omega
  have a2 : (n : Int) ≤ 12 := by have := A.le; omega
  have hs : rows.length ≤ sz := by have := A.len; unfold sz; omega
  simp -implicitDefEqProofs [f5, s_is_tuple_of (N := N) (k := k) (by omega), s_is_whole (N := N) (k := k) (by omega), a1, a2]
  rw [ev_map [.tuple (rows.map encP)] rows encP (fun v => .bool true) ?_ ?_ ?_ hs ?_]
  · have := q_all (l := rows) (p := fun _ => true)
    simp [this, s_is_ascending (N := N) (k := k) (by omega) rows encP ltP hs (fun x _ y _ => q_ltP)]
    have q := A.asc
    simp at q
    exact q
  · simp
  · simp
  · simp
  · intro p hp
    obtain ⟨b1, b2, b3⟩ := A.lt p hp
    have b1 : (p.1 : Int) ≤ n - 1 := by omega
    have b2 : (p.2 : Int) ≤ n - 1 := by omega
    have b3 : ¬ (p.1 : Int) = p.2 := by omega
    have w := s_are_wholes (N := N) (k := k) (by omega) [(p.1 : Int), (p.2 : Int)] 2 0 (n - 1) (by simp [sz])
    simp at w
    simp [encP, w, b1, b2, b3]
theorem s_need_arrows (hk : 5 ≤ k) (A : AOk n rows) : evF P N k 6 [.val (encA n rows)] = some (.none, [.val (encA n rows)]) := by
  obtain ⟨k, rfl, hj⟩ := exS hk
  refine ev_call p6 rfl ?_
  simp -implicitDefEqProofs [f6, s_fits_arrows (N := N) (k := k) (by omega) A]
theorem s_are_arrows (hk : 5 ≤ k) (A : AOk n rows) : evF P N k 11 [.val (encA n rows)] = some (.bool true, [.val (encA n rows)]) := by
  obtain ⟨k, rfl, hj⟩ := exS hk
  refine ev_call p11 rfl ?_
  simp -implicitDefEqProofs [f11, s_fits_arrows (N := N) (k := k) (by omega) A]
theorem s_ends_from (hk : 1 ≤ k) (A : AOk n rows) : evF P N k 7 [.val (encA n rows)] = some (.list ((endsOf n rows).map fun r => .list (r.map encN)), [.val (encA n rows)]) := by
  obtain ⟨k, rfl, hj⟩ := exS hk
  refine ev_call p7 rfl ?_
  unfold encA
  have hs : rows.length ≤ sz := by have := A.len; unfold sz; omega
  have hn : n ≤ 12 := A.le
  simp -implicitDefEqProofs [f7]
  rw [ev_map [.int n] (List.range n) encN (fun s => .list (((rows.filter fun p => p.1 == s).map (·.2)).map encN)) ?_ ?_ ?_ ?_ ?_]
  · simp [endsOf]
  · simp
  · rw [sq_rng1 (by omega)]; rfl
  · simp
  · simp [sz]; omega
  · intro s hs'
    simp [encN]
    rw [ev_filt [.tuple (rows.map encP)] rows encP (fun p => p.1 == s) (fun p => .int p.2) ?_ ?_ ?_ hs ?_]
    · simp; intros; rfl
    · simp
    · simp
    · simp
    · intro p hp
      simp [encP]
      rw [Bool.eq_iff_iff]; simp; omega
theorem s_kind_of (hk : 1 ≤ k) (o : Option Nat) : evF P N k 9 [.val (encO o)] = some (.str (kindW o), [.val (encO o)]) := by
  obtain ⟨k, rfl, hj⟩ := exS hk
  refine ev_call p9 rfl ?_
  cases o with
  | none => simp -implicitDefEqProofs [f9, kindW]
  | some r =>
    simp -implicitDefEqProofs [f9, kindW]
    by_cases h : r % 2 = 1
    · simp [h, (by omega : (r : Int) % 2 = 1)]
    · simp [h, (by omega : (r : Int) % 2 = 0)]
theorem evenI (r : Nat) : ((r : Int) % 2 = 1) = (r % 2 = 1) := by apply propext; omega
theorem eveni (r : Nat) : ((r : Int) % 2 == 1) = (r % 2 == 1) := by rw [Bool.eq_iff_iff]; simp; omega
theorem eveni0 (r : Nat) : ((r : Int) % 2 == 0) = (r % 2 == 0) := by rw [Bool.eq_iff_iff]; simp; omega
theorem s_fits_ranks (hk : 1 ≤ k) (o : Option Nat) (l : List (Option Nat)) (hl : l.length ≤ sz) : evF P N k 10 [.val (encO o), .val (.list (l.map encO))] = some (.bool (fitsG o l), [.val (encO o), .val (.list (l.map encO))]) := by
  obtain ⟨k, rfl, hj⟩ := exS hk
  refine ev_call p10 rfl ?_
  cases o with
  | none =>
    have h1 := q_isinL encO_ok (y := none) (xs := l)
    rw [encO_none] at h1
    simp -implicitDefEqProofs [f10, fitsG, h1]
    rw [ev_map [.list (l.map encO)] l encO (fun o => .bool (pN o)) ?_ ?_ ?_ hl ?_]
    · simp
      by_cases h : none ∈ l
      · have : (l.any Option.isNone) = true := by rw [List.any_eq_true]; exact ⟨_, h, rfl⟩
        simp [h, this]
      · have : (l.any Option.isNone) = false := by
          rw [List.any_eq_false]; intro x hx; cases x with
          | none => exact absurd hx h
          | some v => simp
        simp [h, this]
    · simp
    · simp
    · simp
    · intro o ho
      cases o with
      | none => simp [pN]
      | some v => simp [eveni, pN]
  | some r =>
    simp -implicitDefEqProofs [f10, fitsG]
    by_cases h : r % 2 = 1
    · simp [h, evenI]
      rw [ev_map [.list (l.map encO)] l encO (fun o => .bool (pE r o)) ?_ ?_ ?_ hl ?_]
      · simp
      · simp
      · simp
      · simp
      · intro o ho
        cases o with
        | none => simp [pE]
        | some v => simp [eveni0, pE]; by_cases hv : v % 2 = 0 <;> simp [hv]
    · simp [h, evenI]
      rw [ev_map [.list (l.map encO)] l encO (fun o => .bool (pO r o)) ?_ ?_ ?_ hl ?_]
      · simp
      · simp
      · simp
      · simp
      · intro o ho
        cases o with
        | none => simp [pO]
        | some v => simp [eveni, pO]; by_cases hv : v % 2 = 1 <;> simp [hv]
theorem ranksN_len {ends : List (List Nat)} (h : ends.length = n) : ∀ m, ((List.range m).foldl (stepR ends) (List.replicate n none)).length = n := by
  intro m
  induction m with
  | zero => simp
  | succ m ih => rw [List.range_succ, List.foldl_append]; simp [stepR_len, h]
theorem putR_len {r : Nat} {found s : List (Option Nat)} {p : List Nat × Nat} : (putR r found s p).length = s.length := by unfold putR; split <;> simp
theorem s_ranks_in (hk : 2 ≤ k) (A : AOk n rows) : evF P N k 8 [.val (encA n rows)] = some (.list ((ranksN n (endsOf n rows)).map encO), [.val (encA n rows)]) := by
  obtain ⟨k, rfl, hj⟩ := exS hk
  refine ev_call p8 rfl ?_
  have hn : n ≤ 12 := A.le
  have hp := A.pos
  have e0 := s_ends_from (N := N) hj A
  have hm : primS .mul [.list [.none], .int (n : Int)] = some (.list ((List.replicate n (none : Option Nat)).map encO)) := by
    rw [q_mulL1 (by unfold sz; omega), List.map_replicate]; rfl
  unfold encA at e0 ⊢
  generalize hE : endsOf n rows = ends at e0
  have hlen : ends.length = n := by rw [← hE]; exact endsOf_len
  have hel : ∀ (c : Nat) (row : List Nat), ends[c]? = some row → (∀ e ∈ row, e < n) ∧ row.length ≤ 1000 := by
    intro c row h; rw [← hE] at h; refine ⟨endsOf_lt A h, ?_⟩
    obtain ⟨_, rfl⟩ := endsOf_get h
    rw [List.length_map]; exact Nat.le_trans (List.length_filter_le _ _) A.len
  simp -implicitDefEqProofs [f8, e0, hm, parOk, E.fresh, Prim.fresh, Es.freshAt]
  refine ss_for0 [.int n] (List.range n) encN (fun (s : List (Option Nat)) ρ => s.length = n ∧ ∃ g3 g4 g5 g6 g7 g8 : Slot, ρ = [Slot.val (.tuple [.int n, .tuple (rows.map encP)]), .val (.list (ends.map fun r => .list (r.map encN))), .val (.list (s.map encO)), g3, g4, g5, g6, g7, g8, .none, .none]) (stepR ends) (List.replicate n none) ?_ ?_ ?_ ?_ ?_
  · simp
  · rw [sq_rng1 (by omega)]; rfl
  · exact ⟨by simp, .none, .none, .none, .none, .none, .none, by simp⟩
  · rintro found ρ r hr ⟨hf, g3, g4, g5, g6, g7, g8, rfl⟩
    have hr' : r < n := by simpa using hr
    simp [encN, E.fresh, Prim.fresh]
    refine ss_for0 [.list (ends.map fun r => .list (r.map encN))] ends.zipIdx (fun p => .tuple [.int p.2, .list (p.1.map encN)]) (fun (s : List (Option Nat)) ρ => s.length = n ∧ ∃ g5 g6 g7 g8 : Slot, ρ = [Slot.val (.tuple [.int n, .tuple (rows.map encP)]), .val (.list (ends.map fun r => .list (r.map encN))), .val (.list (found.map encO)), .val (.int r), .olst false (s.map encO), g5, g6, g7, g8, .none, .none]) (putR r found) found (by simp) ?_ ?_ ?_ ?_
    · rw [sq_enumL, List.zipIdx_map, List.map_map]; rfl
    · exact ⟨hf, _, _, _, _, rfl⟩
    · rintro s ρ ⟨row, c⟩ hx ⟨hs, g5, g6, g7, g8, rfl⟩
      rw [List.mem_zipIdx_iff_getElem?] at hx
      dsimp only at hx
      obtain ⟨hrow, hrl⟩ := hel c row hx
      have hc : c < n := by rw [← hlen]; exact (List.getElem?_eq_some_iff.mp hx).1
      have hcf : c < found.length := by omega
      have hcs : c < s.length := by omega
      obtain ⟨vals, hv⟩ : ∃ vals, vals = row.map fun e => found.getD e none := ⟨_, rfl⟩
      obtain ⟨oc, ho⟩ : ∃ oc, oc = found.getD c none := ⟨_, rfl⟩
      have hput : putR r found s (row, c) = if oc.isNone && fitsR r vals then s.set c (some r) else s := by rw [hv, ho]; rfl
      have hvl : vals.length ≤ sz := by rw [hv, List.length_map]; unfold sz; omega
      have hix : atL (found.map encO) (c : Int) = some (encO oc) := atL_nat (by simp [List.getElem?_map, List.getD, hcf, ho])
      have hmap : (row.map fun e => encO (found.getD e none)) = vals.map encO := by rw [hv, List.map_map]; rfl
      have hN : isNonS (encO oc) = oc.isNone := by cases oc <;> simp
      have hpl : (putR r found s (row, c)).length = n := by rw [putR_len]; exact hs
      simp -implicitDefEqProofs [hpl]
      rw [ev_map [.list (row.map encN)] row encN (fun e => encO (found.getD e none)) ?_ ?_ ?_ (by unfold sz; omega) ?_, hmap]
      rotate_left
      · simp
      · simp
      · simp
      · intro e he
        have : e < found.length := by rw [hf]; exact hrow e he
        simp -implicitDefEqProofs [encN]
        rw [atL_nat (v := encO (found.getD e none)) (by simp [List.getElem?_map, List.getD, this])]
        simp
      rw [hput]
      clear hput ho hv hmap
      by_cases hodd : r % 2 = 1
      · have h1 := q_isinL encO_ok (y := some (r - 1)) (xs := vals)
        rw [encO_some] at h1
        rw [show ((r - 1 : Nat) : Int) = (r : Int) - 1 by omega] at h1
        have hfit : fitsR r vals = vals.any (· == some (r - 1)) := by rw [fitsR_eq, if_pos hodd]
        rw [← hfit] at h1
        have h2 : (r : Int) % 2 = 1 := by omega
        simp -implicitDefEqProofs [h2, h1, hix, hN]
        cases oc <;> cases fitsR r vals <;> simp -implicitDefEqProofs [hcs]
      · have hfit : fitsR r vals = vals.all pO1 := by rw [fitsR_eq, if_neg hodd]
        have h2 : (r : Int) % 2 = 0 := by omega
        simp -implicitDefEqProofs [h2]
        rw [ev_map [.list (vals.map encO)] vals encO (fun o => .bool (pO1 o)) ?_ ?_ ?_ hvl ?_]
        rotate_left
        · simp
        · simp
        · simp
        · intro o ho
          cases o with
          | none => simp [pO1]
          | some v => simp [pO1, eveni]
        have h3 := q_all (l := vals) (p := pO1)
        rw [← hfit] at h3
        simp -implicitDefEqProofs [h3, hix, hN]
        cases oc <;> cases fitsR r vals <;> simp -implicitDefEqProofs [hcs]
    · rintro ρ ⟨hs, g5, g6, g7, g8, rfl⟩
      rw [fold_step (by omega)] at hs ⊢
      simp [stepR_len, hlen]
  · rintro ρ ⟨hs, g3, g4, g5, g6, g7, g8, rfl⟩
    simp [ranksN, hE]
theorem ranksN_length (h : AOk n rows) : (ranksN n (endsOf n rows)).length = n := ranksN_len endsOf_len n
theorem s_kind_at (hk : 6 ≤ k) (A : AOk n rows) (c : Nat) (hc : c < n) : evF P N k 12 [.val (encA n rows), .val (.int c)] = some (.str (kindW ((ranksN n (endsOf n rows)).getD c none)), [.val (encA n rows), .val (.int c)]) := by
  obtain ⟨k, rfl, hj⟩ := exS hk
  refine ev_call p12 rfl ?_
  have e1 := s_need_arrows (N := N) (k := k) (by omega) A
  have e2 := s_ranks_in (N := N) (k := k) (by omega) A
  have e3 : atL ((ranksN n (endsOf n rows)).map encO) (c : Int) = some (encO ((ranksN n (endsOf n rows)).getD c none)) := atL_nat (by
    have : c < (ranksN n (endsOf n rows)).length := by rw [ranksN_length A]; exact hc
    simp [List.getElem?_map, List.getD, this])
  generalize (ranksN n (endsOf n rows)).getD c none = oc at e3 ⊢
  generalize (ranksN n (endsOf n rows)).map encO = rs at e2 e3
  unfold encA at e1 e2 ⊢
  have h2 : (c : Int) ≤ n - 1 := by omega
  simp -implicitDefEqProofs [f12, e1, e2, e3, h2, s_is_whole (N := N) (k := k) (by omega), s_kind_of (N := N) (k := k) (by omega)]
theorem s_ranks_of (hk : 6 ≤ k) (A : AOk n rows) : evF P N k 13 [.val (encA n rows)] = some (.tuple ((ranksN n (endsOf n rows)).map encO), [.val (encA n rows)]) := by
  obtain ⟨k, rfl, hj⟩ := exS hk
  refine ev_call p13 rfl ?_
  simp -implicitDefEqProofs [f13, s_need_arrows (N := N) (k := k) (by omega) A, s_ranks_in (N := N) (k := k) (by omega) A]
theorem s_is_rank_row (hk : 6 ≤ k) (A : AOk n rows) (v : List (Option Nat)) (hv : v.length ≤ sz) : evF P N k 14 [.val (encA n rows), .val (.tuple (v.map encO))] = some (.bool (isRow n rows v), [.val (encA n rows), .val (.tuple (v.map encO))]) := by
  obtain ⟨k, rfl, hj⟩ := exS hk
  refine ev_call p14 rfl ?_
  have e1 := s_need_arrows (N := N) (k := k) (by omega) A
  have e2 := s_ends_from (N := N) (k := k) (by omega) A
  have hel : ∀ (c : Nat) (row : List Nat), (endsOf n rows)[c]? = some row → (∀ e ∈ row, e < n) ∧ row.length ≤ 1000 := by
    intro c row h; refine ⟨endsOf_lt A h, ?_⟩
    obtain ⟨_, rfl⟩ := endsOf_get h
    rw [List.length_map]; exact Nat.le_trans (List.length_filter_le _ _) A.len
  unfold isRow
  generalize hE : endsOf n rows = ends at e2 hel ⊢
  unfold encA at e1 e2 ⊢
  have hW := q_all (l := v) (p := pW)
  have hV := q_all (l := v.zip ends) (p := fun p => fitsG p.1 (p.2.map fun e => v.getD e none))
  have hB : ∀ (o : Option Nat) (row : List Nat), (o, row) ∈ v.zip ends → (∀ e ∈ row, e < n) ∧ row.length ≤ 1000 := by
    intro o row hp
    obtain ⟨c, hc⟩ := List.mem_iff_getElem?.mp (List.of_mem_zip hp).2
    exact hel c row hc
  generalize (v.all pW) = W at hW ⊢
  generalize ((v.zip ends).all fun p => fitsG p.1 (p.2.map fun e => v.getD e none)) = V at hV ⊢
  simp -implicitDefEqProofs [f14, e1, s_is_tuple_of (N := N) (k := k) (by omega)]
  by_cases hlen : v.length = n
  · rw [if_neg (by omega)]
    rw [ev_map [.tuple (v.map encO)] v encO (fun o => .bool (pW o)) ?_ ?_ ?_ hv ?_]
    rotate_left
    · simp
    · simp
    · simp
    · intro o ho
      cases o with
      | none => simp [pW]
      | some r => simp -implicitDefEqProofs [pW, s_is_whole (N := N) (k := k) (by omega)]; omega
    cases W with
    | false => simp -implicitDefEqProofs [hlen, hW]
    | true =>
      simp -implicitDefEqProofs [hlen, hW]
      rw [ev_map [.tuple (v.map encO), .list (ends.map fun r => .list (r.map encN))] (v.zip ends) (fun p => .tuple [encO p.1, .list (p.2.map encN)]) (fun p => .bool (fitsG p.1 (p.2.map fun e => v.getD e none))) ?_ ?_ ?_ ?_ ?_]
      rotate_left
      · simp -implicitDefEqProofs [e2]
      · rw [sq_zip rfl rfl, List.zip_map, List.map_map]; rfl
      · simp
      · simp; omega
      · rintro ⟨o, row⟩ hp
        obtain ⟨hrow, hrl⟩ := hB o row hp
        have hmap : (row.map fun e => encO (v.getD e none)) = (row.map fun e => v.getD e none).map encO := by rw [List.map_map]; rfl
        have hq := s_fits_ranks (N := N) (k := k) (by omega) o (row.map fun e => v.getD e none) (by rw [List.length_map]; unfold sz; omega)
        dsimp only
        generalize hval : (row.map fun e => v.getD e none) = vals at hq hmap ⊢
        simp -implicitDefEqProofs
        rw [ev_map [.list (row.map encN)] row encN (fun e => encO (v.getD e none)) ?_ ?_ ?_ (by unfold sz; omega) ?_]
        rotate_left
        · simp
        · simp
        · simp
        · intro e he
          have : e < v.length := by rw [hlen]; exact hrow e he
          simp -implicitDefEqProofs [encN]
          rw [atL_nat (v := encO (v.getD e none)) (by simp [List.getElem?_map, List.getD, this])]
          simp
        rw [hmap]
        simp -implicitDefEqProofs [hq]
      generalize (List.map (fun p : Option Nat × List Nat => PyData.bool (fitsG p.1 (p.2.map fun e => v.getD e none))) (v.zip ends)) = L at hV ⊢
      simp -implicitDefEqProofs [hV]
  · simp -implicitDefEqProofs [hlen]
    intro h1 h2
    omega
end
end LK88
namespace LK88
open PySem G
/-! ### _law_sort, _law_like -/
section
variable {N k : Nat}
theorem s_sort (hk : 1 ≤ k) (v : AV) : evF P N k 43 [.val v] = some (.int (sortN v), [.val v]) := by
  obtain ⟨k, rfl, hj⟩ := exS hk
  refine ev_call p43 rfl ?_
  cases v <;> simp -implicitDefEqProofs [f43, sortN]
  rfl
theorem s_like : ∀ (m : Nat) {k : Nat} (hk : m + 2 ≤ k) (d : AV), WF m d = true → evF P N k 44 [.val d, .val d] = some (.bool true, [.val d, .val d]) := by
  intro m
  induction m with
  | zero =>
    intro k hk d hd
    obtain ⟨k, rfl, hj⟩ := exS hk
    refine ev_call p44 rfl ?_
    have e1 := s_sort (N := N) (k := k) (by omega) d
    have i1 : primS .isin [.int (sortN d), .tuple [.int 4, .int 5]] = some (.bool (sortN d == 4 || sortN d == 5)) := by
      have := q_isinT encI_ok (y := sortN d) (xs := [4, 5])
      simp only [encI, List.map_cons, List.map_nil, List.any_cons, List.any_nil, Bool.or_false] at this
      rw [this, Bool.eq_iff_iff.mpr (show ((4 == sortN d || 5 == sortN d) = true ↔ (sortN d == 4 || sortN d == 5) = true) by simp; omega)]
    have i2 : primS .eq [d, d] = some (.bool true) := by
      show (eqS d d).map PyData.bool = _
      cases d <;> simp [WF] at hd <;> simp [eqS, eqOk, SeqAt.shaped, PyData.canLay0, PyData.depth, PyData.eqv, hd]
    have i3 : ¬ (sortN d = 6) ∧ ¬ (sortN d = 4) ∧ ¬ (sortN d = 5) := by cases d <;> simp [WF] at hd <;> simp [sortN]
    generalize sortN d = s at e1 i1 i3
    simp -implicitDefEqProofs [f44, e1, i1, i2, i3]
  | succ m ih =>
    intro k hk d hd
    obtain ⟨k, rfl, hj⟩ := exS hk
    refine ev_call p44 rfl ?_
    have e1 := s_sort (N := N) (k := k) (by omega) d
    have i1 : primS .isin [.int (sortN d), .tuple [.int 4, .int 5]] = some (.bool (sortN d == 4 || sortN d == 5)) := by
      have := q_isinT encI_ok (y := sortN d) (xs := [4, 5])
      simp only [encI, List.map_cons, List.map_nil, List.any_cons, List.any_nil, Bool.or_false] at this
      rw [this, Bool.eq_iff_iff.mpr (show ((4 == sortN d || 5 == sortN d) = true ↔ (sortN d == 4 || sortN d == 5) = true) by simp; omega)]
    by_cases hsc : WF 0 d = true
    · have i2 : primS .eq [d, d] = some (.bool true) := by
        show (eqS d d).map PyData.bool = _
        cases d <;> simp [WF] at hsc <;> simp [eqS, eqOk, SeqAt.shaped, PyData.canLay0, PyData.depth, PyData.eqv, hsc]
      have i3 : ¬ (sortN d = 6) ∧ ¬ (sortN d = 4) ∧ ¬ (sortN d = 5) := by cases d <;> simp [WF] at hsc <;> simp [sortN]
      generalize sortN d = s at e1 i1 i3
      simp -implicitDefEqProofs [f44, e1, i1, i2, i3]
    · obtain ⟨xs, hxs, hlen, hall, hsort⟩ : ∃ xs, (d = .list xs ∨ d = .tuple xs) ∧ xs.length ≤ sz ∧ (∀ x ∈ xs, WF m x = true) ∧ (sortN d = 4 ∨ sortN d = 5) := by
        cases d <;> simp [WF] at hd hsc
        case str => rw [hd] at hsc; cases hsc
        case list xs => exact ⟨xs, .inl rfl, hd.1, hd.2, .inr rfl⟩
        case tuple xs => exact ⟨xs, .inr rfl, hd.1, hd.2, .inl rfl⟩
      have hit : items? d = some xs := by rcases hxs with rfl | rfl <;> rfl
      have hl : primS .len [d] = some (.int xs.length) := by rcases hxs with rfl | rfl <;> simp
      have he : primS .eq [.list [], .list []] = some (.bool true) := by
        show (eqS (.list []) (.list [])).map PyData.bool = _
        simp [eqS, eqOk, SeqAt.shaped, PyData.canLay0, PyData.canLayAll0, PyData.depth, PyData.depthAll]
      clear hxs hd hsc
      have i4 : ¬ sortN d = 6 := by omega
      generalize sortN d = s at e1 i1 hsort i4
      simp -implicitDefEqProofs [f44, e1, i1, i4, hsort, hl]
      rw [ev_filt [d, d] (xs.zip xs) (fun p => .tuple [p.1, p.2]) (fun _ => false) (fun _ => .int 1) ?_ ?_ ?_ ?_ ?_]
      rotate_left
      · simp
      · rw [sq_zip hit hit]
      · simp
      · simp; omega
      · rintro ⟨x, y⟩ hp
        have hxy : x = y := by
          obtain ⟨i, hi⟩ := List.mem_iff_getElem?.mp hp
          rw [List.getElem?_zip_eq_some] at hi
          have := hi.1.symm.trans hi.2
          simpa using this
        subst hxy
        have hx : x ∈ xs := (List.of_mem_zip hp).1
        simp -implicitDefEqProofs [ih (k := k) (by omega) x (hall x hx)]
      have hf : (xs.zip xs).filter (fun _ => false) = [] := List.filter_eq_nil_iff.mpr (by simp)
      rw [hf]
      simp -implicitDefEqProofs [he]
end
end LK88
namespace LK88
open PySem G
/-! ### _law_arrows, _law_right -/
section
open AR RT
variable {N k : Nat} {α : Type} [BEq α] [LawfulBEq α] {e : α → AV}
/-- a game: its dict of moves -/
structure Gm (e : α → AV) (d : AV) (mv sm : α → List α) (U : α → Prop) : Prop where
  enc : EncOk e
  look : ∀ x, U x → ixS d (e x) = some (.list ((mv x).map e))
  set : ∀ x, U x → ssetS ((mv x).map e) = some (.list ((sm x).map e))
  clo : ∀ x, U x → ∀ y ∈ sm x, U y
  few : ∀ x, U x → (sm x).length ≤ 60
theorem s_law_arrows (hk : 1 ≤ k) {d : AV} {mv sm : α → List α} {U : α → Prop} (Gm : Gm e d mv sm U) {start : α} (h0 : U start) (hin : ∀ x ∈ foundN sm start, ∀ y ∈ sm x, (foundN sm start).any (· == y) = true) (hn : (foundN sm start).length ≤ 12) :
    evF P N k 45 [.val d, .val (e start)] = some (.tuple [.list ((foundN sm start).map e), encA (foundN sm start).length (srtB leP (rowsN sm (foundN sm start)))], [.val d, .val (e start)]) := by
  obtain ⟨k, rfl, hj⟩ := exS hk
  refine ev_call p45 rfl ?_
  have hU := found_U (sm := sm) Gm.clo h0
  simp -implicitDefEqProofs [f45]
  refine ss_forP [.int 12] (List.range 12) encN (fun (done : List Nat) ρ => ∃ g3 g4 : Slot, ρ = [Slot.val d, .val (e start), .val (.list ((done.foldl (turnN sm) [start]).map e)), g3, g4, .none, .none, .none]) ?_ ?_ ?_ ?_ ?_
  · simp
  · exact sq_rng1 (n := 12) (by omega)
  · exact ⟨.none, .none, rfl⟩
  · rintro done t rest ρ hd ⟨g3, g4, rfl⟩
    obtain ⟨s, hs⟩ : ∃ s, s = done.foldl (turnN sm) [start] := ⟨_, rfl⟩
    have hfin : foundN sm start = (rest.foldl (turnN sm) (turnN sm s t)) := by rw [foundN, hd, List.foldl_append, List.foldl_cons, hs]
    have sub1 := foldt_sub (sm := sm) rest (turnN sm s t)
    rw [← hfin] at sub1
    rw [List.foldl_append, List.foldl_cons, List.foldl_nil, ← hs]
    simp -implicitDefEqProofs [encN]
    refine ss_forP [.list ((s.map e |>.drop t).take 1)] ((s.drop t).take 1) e (fun (done : List α) ρ => ∃ g4 : Slot, ρ = [Slot.val d, .val (e start), .val (.list ((done.foldl (growN sm) s).map e)), .val (.int t), g4, .none, .none, .none]) ?_ ?_ ?_ ?_ ?_
    · simp -implicitDefEqProofs [sl_one]
    · simp
    · exact ⟨_, rfl⟩
    · rintro dn x rs ρ hd2 ⟨g4, rfl⟩
      obtain ⟨c, hc⟩ : ∃ c, c = dn.foldl (growN sm) s := ⟨_, rfl⟩
      have hfin2 : turnN sm s t = rs.foldl (growN sm) (growN sm c x) := by rw [turnN, hd2, List.foldl_append, List.foldl_cons, hc]
      have sub2 := foldg_sub (sm := sm) rs (growN sm c x)
      rw [← hfin2] at sub2
      have subc := growN_sub (sm := sm) (f := c) (x := x)
      have hcl : (growN sm c x).length ≤ 12 := Nat.le_trans sub2.2 (Nat.le_trans sub1.2 hn)
      have hxs : x ∈ s := List.mem_of_mem_drop (List.mem_of_mem_take (by rw [hd2]; simp))
      have hxU : U x := hU x (sub1.1 x (sub2.1 x (subc.1 x (by rw [hc]; exact (foldg_sub dn s).1 x hxs))))
      have l1 := Gm.look x hxU
      have l2 := Gm.set x hxU
      have l3 := Gm.few x hxU
      have hout : (c.map e ++ ((sm x).reverse.filter fun y => !c.any (· == y)).map e) = (growN sm c x).map e := by rw [growN, List.map_append]
      have hadd : primS .add [.list (c.map e), .list (((sm x).reverse.filter fun y => !c.any (· == y)).map e)] = some (.list ((growN sm c x).map e)) := by
        rw [q_addL (by rw [hout, List.length_map]; unfold sz; omega), hout]
      rw [List.foldl_append, List.foldl_cons, List.foldl_nil, ← hc]
      clear hout
      generalize List.map e (growN sm c x) = B at hadd ⊢
      simp -implicitDefEqProofs
      rw [ev_filt [.list ((sm x).reverse.map e)] (sm x).reverse e (fun y => !c.any (· == y)) e ?_ ?_ ?_ ?_ ?_]
      rotate_left
      · simp -implicitDefEqProofs [q_ixD, l1, q_sset, l2, q_rev]
      · simp
      · simp
      · simp; unfold sz; omega
      · intro y hy
        simp -implicitDefEqProofs [q_notinL Gm.enc]
      generalize List.map e (List.filter (fun y => !c.any (· == y)) (sm x).reverse) = A at hadd ⊢
      simp -implicitDefEqProofs [hadd]
    · rintro ρ ⟨g4, rfl⟩
      simp [turnN]
  · rintro ρ ⟨g3, g4, rfl⟩
    rw [show (List.range 12).foldl (turnN sm) [start] = foundN sm start from rfl]
    generalize foundN sm start = f at hU hin hn ⊢
    simp -implicitDefEqProofs
    refine ss_forP [.list (f.map e)] f.zipIdx (fun p => .tuple [.int p.2, e p.1]) (fun (done : List (α × Nat)) ρ => ∃ g4 g6 : Slot, ρ = [Slot.val d, .val (e start), .val (.list (f.map e)), g3, g4, .val (.list ((done.foldl (fun rows p => rows ++ (sm p.1).map fun y => (p.2, idxN f y)) ([] : List (Nat × Nat))).map encP)), g6, .none]) ?_ ?_ ?_ ?_ ?_
    · simp
    · rw [sq_enumL, List.zipIdx_map, List.map_map]; rfl
    · exact ⟨_, _, rfl⟩
    · rintro done ⟨x, c⟩ rest ρ hd ⟨g4, g6, rfl⟩
      have hmem : (x, c) ∈ f.zipIdx := by rw [hd]; simp
      have hxf : x ∈ f := by
        rw [List.mem_zipIdx_iff_getElem?] at hmem
        exact List.mem_of_getElem? hmem
      have hxU := hU x hxf
      have l1 := Gm.look x hxU
      have l2 := Gm.set x hxU
      have l3 := Gm.few x hxU
      rw [List.foldl_append, List.foldl_cons, List.foldl_nil]
      have hlen : ∀ l : List (α × Nat), (∀ p ∈ l, p ∈ f.zipIdx) → (l.foldl (fun rows p => rows ++ (sm p.1).map fun y => (p.2, idxN f y)) ([] : List (Nat × Nat))).length ≤ 60 * l.length := by
        intro l
        have : ∀ (l : List (α × Nat)) (acc : List (Nat × Nat)), (∀ p ∈ l, p ∈ f.zipIdx) → (l.foldl (fun rows p => rows ++ (sm p.1).map fun y => (p.2, idxN f y)) acc).length ≤ acc.length + 60 * l.length := by
          intro l
          induction l with
          | nil => intro acc _; simp
          | cons p l ih =>
            intro acc hm
            have h1 := ih (acc ++ (sm p.1).map fun y => (p.2, idxN f y)) (fun q hq => hm q (by simp [hq]))
            have hp := hm p (by simp)
            obtain ⟨px, pc⟩ := p
            rw [List.mem_zipIdx_iff_getElem?] at hp
            have h2 := Gm.few px (hU px (List.mem_of_getElem? hp))
            simp at h1 ⊢
            omega
        intro hm
        simpa using this l [] hm
      have hdl : done.length + 1 ≤ 12 := by
        have : f.zipIdx.length = done.length + 1 + rest.length := by rw [hd]; simp; omega
        simp at this
        omega
      have h3 := hlen done (fun p hp => by rw [hd]; simp [hp])
      obtain ⟨rs, hrs⟩ : ∃ rs, rs = done.foldl (fun rows p => rows ++ (sm p.1).map fun y => (p.2, idxN f y)) ([] : List (Nat × Nat)) := ⟨_, rfl⟩
      rw [← hrs] at h3 ⊢
      have hadd : primS .add [.list (rs.map encP), .list ((sm x).map fun y => encP (c, idxN f y))] = some (.list ((rs ++ (sm x).map fun y => (c, idxN f y)).map encP)) := by
        rw [q_addL (by simp; unfold sz; omega)]
        simp
      generalize List.map encP (rs ++ (sm x).map fun y => (c, idxN f y)) = B at hadd ⊢
      simp -implicitDefEqProofs
      rw [ev_map [.list ((sm x).map e)] (sm x) e (fun y => encP (c, idxN f y)) ?_ ?_ ?_ ?_ ?_]
      rotate_left
      · simp -implicitDefEqProofs [q_ixD, l1, q_sset, l2]
      · simp
      · simp
      · unfold sz; omega
      · intro y hy
        have hi := indexS_enc Gm.enc f 0 (hin x hxf y hy)
        simp -implicitDefEqProofs [shaped_listE Gm.enc, hi, encP, idxN]
      generalize List.map (fun y => encP (c, idxN f y)) (sm x) = A at hadd ⊢
      simp -implicitDefEqProofs [hadd]
    · rintro ρ ⟨g4, g6, rfl⟩
      have hr : f.zipIdx.foldl (fun rows p => rows ++ (sm p.1).map fun y => (p.2, idxN f y)) ([] : List (Nat × Nat)) = rowsN sm f := rfl
      rw [hr]
      simp -implicitDefEqProofs [sortedP, encA]
theorem s_law_right (hk : 8 ≤ k) {d dl : AV} {mv sm : α → List α} {lost : α → Bool} {U : α → Prop} (Gm : Gm e d mv sm U) (hl : ∀ x, U x → ixS dl (e x) = some (.bool (lost x))) {start : α} (h0 : U start) (hmf : ∀ x, U x → (mv x).length ≤ 1000) (hr : rightN mv sm lost start = true) :
    evF P N k 46 [.val d, .val (e start), .val dl] = some (.bool true, [.val d, .val (e start), .val dl]) := by
  obtain ⟨k, rfl, hj⟩ := exS hk
  refine ev_call p46 rfl ?_
  have hU := found_U (sm := sm) Gm.clo h0
  unfold rightN at hr
  simp only [Bool.and_eq_true] at hr
  obtain ⟨⟨⟨⟨⟨⟨r1, r2⟩, r3⟩, r4⟩, r5⟩, r6⟩, r7⟩ := hr
  have A := aok_of r1
  have ea := s_law_arrows (N := N) (k := k) (by omega) Gm h0 (by
    intro x hx y hy
    exact List.all_eq_true.mp (List.all_eq_true.mp r3 x hx) y hy) A.le
  have e1 := s_are_arrows (N := N) (k := k) (by omega) A
  have e2 := fun c hc => s_kind_at (N := N) (k := k) (by omega) A c hc
  have e3 := s_ranks_of (N := N) (k := k) (by omega) A
  have hrl := ranksN_length A
  have e4 := s_is_rank_row (N := N) (k := k) (by omega) A _ (show (ranksN (foundN sm start).length (endsOf (foundN sm start).length (srtB leP (rowsN sm (foundN sm start))))).length ≤ sz by rw [hrl]; have := A.le; unfold sz; omega)
  rw [r5] at e4
  have hpos := A.pos
  have hle := A.le
  clear A r1 r3 r5
  generalize encA (foundN sm start).length (srtB leP (rowsN sm (foundN sm start))) = ar at ea e1 e2 e3 e4
  generalize ranksN (foundN sm start).length (endsOf (foundN sm start).length (srtB leP (rowsN sm (foundN sm start)))) = ranks at e2 e3 e4 r4 r6 r7 hrl
  generalize foundN sm start = f at ea e2 r2 r4 r6 r7 hrl hU hpos hle
  obtain ⟨rr, hrr, hrn⟩ : ∃ rr : List Nat, ranks = rr.map some ∧ ∀ r ∈ rr, r < f.length := by
    clear e2 e3 e4 r4 r7 hrl
    induction ranks with
    | nil => exact ⟨[], rfl, by simp⟩
    | cons o t ih =>
      rw [List.all_cons, Bool.and_eq_true] at r6
      obtain ⟨rr, h1, h2⟩ := ih r6.2
      cases o with
      | none => simp at r6
      | some r => exact ⟨r :: rr, by simp [h1], by
          intro x hx
          rw [List.mem_cons] at hx
          rcases hx with rfl | hx
          · simpa using r6.1
          · exact h2 x hx⟩
  have hrrl : rr.length = f.length := by rw [← hrl, hrr, List.length_map]
  have henc : ranks.map encO = rr.map encN := by rw [hrr, List.map_map]; rfl
  rw [henc] at e3 e4
  have hget : ∀ c, c < f.length → ranks.getD c none = some (rr.getD c 0) := by
    intro c hc
    have : c < rr.length := by omega
    rw [hrr]; simp [List.getD, this]
  -- the words
  have hdue : ((List.range f.length).map fun c => PyData.str (kindW (ranks.getD c none))) = f.map fun x => eD (lost x) := by
    apply List.ext_getElem?
    intro c
    rw [List.getElem?_map, List.getElem?_map]
    by_cases hc : c < f.length
    · rw [List.getElem?_range hc, List.getElem?_eq_getElem hc]
      have := List.all_eq_true.mp r4 (f[c], c) (by rw [List.mem_zipIdx_iff_getElem?]; simp [hc])
      simp only [beq_iff_eq] at this
      simp only [Option.map_some, this, eD]
    · rw [List.getElem?_eq_none (by simp; omega), List.getElem?_eq_none (by omega)]; rfl
  have hlen : primS .len [.list (f.map e)] = some (.int (f.length : Int)) := by simp
  have hwf : WF 2 (.list [.bool true, .list (f.map fun x => eD (lost x)), .bool true]) = true := by
    simp [WF, sz]
    refine ⟨by omega, fun x hx => ?_⟩
    unfold eD
    cases lost x <;> decide +kernel
  have e5 := s_like (N := N) 2 (k := k) (by omega) _ hwf
  have hmax := max1_N (n := f.length) (by intro h; rw [h] at hrrl; simp at hrrl; omega) hrn
  obtain ⟨mx, hm1, hm2⟩ := hmax
  simp -implicitDefEqProofs [f46, ea]
  rw [ev_map [.int (f.length : Int)] (List.range f.length) encN (fun c => PyData.str (kindW (ranks.getD c none))) ?_ ?_ ?_ ?_ ?_, hdue]
  rotate_left
  · simp
  · exact sq_rng1 (by omega)
  · simp
  · simp; unfold sz; omega
  · intro c hc
    have := e2 c (by simpa using hc)
    simp -implicitDefEqProofs [encN, this]
  simp -implicitDefEqProofs
  rw [ev_map [.list (f.map e)] f e (fun x => eD (lost x)) ?_ ?_ ?_ ?_ ?_]
  rotate_left
  · simp
  · simp
  · simp
  · unfold sz; omega
  · intro x hx
    simp -implicitDefEqProofs [q_ixD, hl x (hU x hx)]
    cases lost x <;> rfl
  generalize hD : (f.map fun x => eD (lost x)) = D at e5 ⊢
  simp -implicitDefEqProofs [e1, e3, e4, e5]
  refine ss_forP [.list (f.map e)] f.zipIdx (fun p => .tuple [.int p.2, e p.1]) (fun (done : List (α × Nat)) ρ => ∃ g6 g9 g10 : Slot, ρ = [Slot.val d, .val (e start), .val dl, .val (.list (f.map e)), .val ar, .val (.list D), g6, .val (.list D), .val (.tuple (rr.map encN)), g9, g10, .none, .none]) ?_ ?_ ?_ ?_ ?_
  · simp
  · rw [sq_enumL, List.zipIdx_map, List.map_map]; rfl
  · exact ⟨_, _, _, rfl⟩
  · rintro done ⟨x, c⟩ rest ρ hd ⟨g6, g9, g10, rfl⟩
    have hmem : (x, c) ∈ f.zipIdx := by rw [hd]; simp
    have hxc : f[c]? = some x := by rwa [List.mem_zipIdx_iff_getElem?] at hmem
    have hc : c < f.length := (List.getElem?_eq_some_iff.mp hxc).1
    have hxf : x ∈ f := List.mem_of_getElem? hxc
    have hxU := hU x hxf
    have l1 := Gm.look x hxU
    have h7 := List.all_eq_true.mp r7 (x, c) hmem
    rw [hget c hc] at h7
    simp only [Bool.and_eq_true, beq_iff_eq] at h7
    have hDc : atL D (c : Int) = some (eD (lost x)) := atL_nat (by rw [← hD, List.getElem?_map, hxc]; rfl)
    have hRc : atL (rr.map encN) (c : Int) = some (.int (rr.getD c 0 : Nat)) := atL_nat (by
      have : c < rr.length := by omega
      simp [List.getElem?_map, List.getD, this, encN])
    have i1 := q_notinL eD_ok (y := true) (xs := (mv x).map lost)
    have i2 := q_eqE eD_ok (x := lost x) (y := true)
    rw [List.map_map] at i1
    have hany : ((mv x).map lost).any (· == true) = (mv x).any lost := by rw [List.any_map]; congr 1; funext y; simp
    rw [hany] at i1
    simp -implicitDefEqProofs
    rw [ev_map [.list ((mv x).map e)] (mv x) e (fun y => eD (lost y)) ?_ ?_ ?_ ?_ ?_]
    rotate_left
    · simp -implicitDefEqProofs [q_ixD, l1]
    · simp
    · simp
    · have := hmf x hxU; unfold sz; omega
    · intro y hy
      have hyf := List.all_eq_true.mp (List.all_eq_true.mp r2 x hxf) y hy
      have hi := indexS_enc Gm.enc f 0 hyf
      obtain ⟨z, hz1, hz2⟩ := List.any_eq_true.mp hyf
      have hlt : f.findIdx (· == y) < f.length := List.findIdx_lt_length_of_exists ⟨z, hz1, hz2⟩
      have hfy : f[f.findIdx (· == y)]? = some y := by
        rw [List.getElem?_eq_getElem hlt]
        have := List.findIdx_getElem (xs := f) (p := (· == y)) (w := hlt)
        simpa using this
      have hDy : atL D ((f.findIdx (· == y) : Nat) : Int) = some (eD (lost y)) := atL_nat (by rw [← hD, List.getElem?_map, hfy]; rfl)
      simp -implicitDefEqProofs [shaped_listE Gm.enc, hi, hDy]
    rw [show (eD ∘ lost) = fun y => eD (lost y) from rfl] at i1
    rw [show eD true = .str ⟨#[108, 111, 115, 116]⟩ from rfl] at i1 i2
    obtain ⟨h71, h72⟩ := h7
    have hne : ∀ a b : Bool, primS .ne [.bool a, .bool b] = some (.bool !(a == b)) := fun a b => q_neE encB_ok
    generalize (mv x).map (fun y => eD (lost y)) = L at i1 ⊢
    generalize (mv x).any lost = an at i1 h71
    generalize rr.getD c 0 = r at hRc h72
    cases hb : lost x with
    | true =>
      rw [hb] at h71 h72 hDc i2
      have : (r : Int) % 2 = 0 := by simp at h72; omega
      simp at h71
      simp -implicitDefEqProofs [hDc, hRc, i1, i2, hne, h71, this]
    | false =>
      rw [hb] at h71 h72 hDc i2
      have : (r : Int) % 2 = 1 := by simp at h72; omega
      simp at h71
      simp -implicitDefEqProofs [hDc, hRc, i1, i2, hne, h71, this]
  · rintro ρ ⟨g6, g9, g10, rfl⟩
    simp -implicitDefEqProofs [hm1, hm2]
end
end LK88
namespace LK88
open PySem G
/-! ### carryless, takings -/
section
open TK
variable {N k : Nat}
theorem s_joined (hk : 1 ≤ k) (l : List Nat) (hl : l.length ≤ sz) : evF P N k 15 [.val (.list (l.map encN))] = some (.int (joinN l : Nat), [.val (.list (l.map encN))]) := by
  obtain ⟨k, rfl, hj⟩ := exS hk
  refine ev_call p15 rfl ?_
  simp -implicitDefEqProofs [f15]
  refine ss_for0 [.list (l.map encN)] l encN (fun (s : Nat) ρ => ∃ g : Slot, ρ = [Slot.val (.list (l.map encN)), .val (.int (s : Nat)), g]) (fun a b => a ^^^ b) 0 ?_ ?_ ?_ ?_ ?_
  · simp
  · simp
  · exact ⟨_, rfl⟩
  · rintro s ρ x hx ⟨g, rfl⟩
    simp -implicitDefEqProofs [encN, bitXor_nat]
  · rintro ρ ⟨g, rfl⟩
    simp [joinN]
theorem s_missing_in (hk : 1 ≤ k) (l : List Nat) (hl : l.length + 2 ≤ N) (hl2 : l.length ≤ sz) : evF P N k 16 [.val (.list (l.map encN))] = some (.int (mexN l : Nat), [.val (.list (l.map encN))]) := by
  obtain ⟨k, rfl, hj⟩ := exS hk
  refine ev_call p16 rfl ?_
  have hd := q_dictP encN_ok (l := l.map fun x => (x, PyData.bool true)) (by intro p _; rfl)
  rw [List.map_map] at hd
  have hin : ∀ v : Nat, primS .isin [.int (v : Nat), mkD 0 ((mergeN [] (l.map fun x => (x, PyData.bool true))).map (encK encN))] = some (.bool (l.contains v)) := by
    intro v
    rw [q_isinG, show (PyData.int (v : Nat)) = encN v from rfl, inS_mkD encN_ok (by rfl), look_merge (w := .bool true) _ _ (by intro p hp _; rw [List.mem_map] at hp; obtain ⟨x, _, rfl⟩ := hp; rfl)]
    rw [List.any_map]
    by_cases h : l.contains v = true
    · have : (l.any ((fun p : Nat × AV => p.1 == v) ∘ fun x => (x, PyData.bool true))) = true := by
        rw [List.any_eq_true]; exact ⟨v, by simpa using h, by simp⟩
      rw [this, h]; rfl
    · have : ¬ (l.any ((fun p : Nat × AV => p.1 == v) ∘ fun x => (x, PyData.bool true))) = true := by
        rw [List.any_eq_true]; rintro ⟨x, hx, h2⟩
        have h3 : x = v := by simpa using h2
        exact h (by rw [← h3]; simpa using hx)
      rw [if_neg this]
      simp only [lookN]
      simp at h
      simp [h]
  generalize mkD 0 ((mergeN [] (l.map fun x => (x, PyData.bool true))).map (encK encN)) = dv at hd hin
  simp -implicitDefEqProofs [f16, parOk, E.fresh, Prim.fresh, Es.freshAt]
  rw [ev_map [.list (l.map encN)] l encN (fun x => .tuple [encN x, .bool true]) ?_ ?_ ?_ hl2 ?_]
  rotate_left
  · simp
  · simp
  · simp
  · intro x hx
    simp [encN]
  rw [show ((fun p : Nat × AV => PyData.tuple [encN p.1, p.2]) ∘ fun x => (x, PyData.bool true)) = fun x => PyData.tuple [encN x, .bool true] from rfl] at hd
  generalize (l.map fun x => PyData.tuple [encN x, .bool true]) = A at hd ⊢
  simp -implicitDefEqProofs [hd]
  refine ss_while (fun m ρ => ∃ v : Nat, m + v = l.length + 1 ∧ (∀ u, u < v → u ∈ l) ∧ ρ = [Slot.val (.list (l.map encN)), .val dv, .val (.int (v : Nat)), .none]) (l.length + 1) (by omega) ⟨0, by omega, by omega, rfl⟩ ?_
  rintro m ρ hm ⟨v, h1, h2, rfl⟩
  simp -implicitDefEqProofs [hin]
  by_cases hv : v ∈ l
  · have hle := mex_le (l := l) (v := v + 1) (fun u hu => by
      by_cases e : u = v
      · rw [e]; exact hv
      · exact h2 u (by omega))
    simp -implicitDefEqProofs [hv]
    exact ⟨m - 1, by omega, v + 1, by omega, fun u hu => by
      by_cases e : u = v
      · rw [e]; exact hv
      · exact h2 u (by omega), by simp⟩
  · have : v = mexN l := IsMex.uniq ⟨hv, h2⟩ (mexN_is l)
    subst this
    simp -implicitDefEqProofs [hv]
theorem s_fit_takings (hk : 2 ≤ k) (ts : List Nat) (T : TOk ts) : evF P N k 17 [.val (.tuple (ts.map encN))] = some (.bool true, [.val (.tuple (ts.map encN))]) := by
  obtain ⟨k, rfl, hj⟩ := exS hk
  refine ev_call p17 rfl ?_
  have h1 := T.pos
  have h2 := T.le
  have hs : ts.length ≤ sz := by unfold sz; omega
  have a1 : (1 : Int) ≤ (ts.map encN).length := by simp; omega
  have a2 : ((ts.map encN).length : Int) ≤ 10 := by simp; omega
  have e1 := s_is_tuple_of (N := N) (k := k) (by omega) (ts.map encN) 1 10
  rw [decide_eq_true a1, decide_eq_true a2] at e1
  have e2 := s_is_ascending (N := N) (k := k) (by omega) ts encN (fun a b => decide (a < b)) hs (fun x _ y _ => by simp [encN])
  rw [T.asc] at e2
  simp -implicitDefEqProofs [f17, e1]
  rw [ev_map [.tuple (ts.map encN)] ts encN (fun _ => .bool true) ?_ ?_ ?_ hs ?_]
  rotate_left
  · simp
  · simp
  · simp
  · intro t ht
    obtain ⟨b1, b2⟩ := T.all t ht
    have b1 : (1 : Int) ≤ t := by omega
    have b2 : (t : Int) ≤ 60 := by omega
    simp -implicitDefEqProofs [encN, s_is_whole (N := N) (k := k) (by omega), b1, b2]
  have h3 := q_all (l := ts) (p := fun _ => true)
  rw [List.all_eq_true.mpr (fun _ _ => rfl)] at h3
  generalize (ts.map fun _ => PyData.bool true) = A at h3 ⊢
  simp -implicitDefEqProofs [h3, e2]
theorem s_need_takings (hk : 3 ≤ k) (ts : List Nat) (T : TOk ts) : evF P N k 18 [.val (.tuple (ts.map encN))] = some (.none, [.val (.tuple (ts.map encN))]) := by
  obtain ⟨k, rfl, hj⟩ := exS hk
  refine ev_call p18 rfl ?_
  simp -implicitDefEqProofs [f18, s_fit_takings (N := N) hj ts T]
theorem s_need_few (hk : 2 ≤ k) (hs : List Nat) (H : HOk hs) : evF P N k 19 [.val (.tuple (hs.map encN)), .val (.int 20000)] = some (.none, [.val (.tuple (hs.map encN)), .val (.int 20000)]) := by
  obtain ⟨k, rfl, hj⟩ := exS hk
  refine ev_call p19 rfl ?_
  have h2 := H.le
  have hz : hs.length ≤ sz := by unfold sz; omega
  have a1 : (0 : Int) ≤ (hs.map encN).length := by simp
  have a2 : ((hs.map encN).length : Int) ≤ 12 := by simp; omega
  have e1 := s_is_tuple_of (N := N) (k := k) (by omega) (hs.map encN) 0 12
  rw [decide_eq_true a1, decide_eq_true a2] at e1
  simp -implicitDefEqProofs [f19, e1]
  rw [ev_map [.tuple (hs.map encN)] hs encN (fun _ => .bool true) ?_ ?_ ?_ hz ?_]
  rotate_left
  · simp
  · simp
  · simp
  · intro t ht
    have b1 := H.all t ht
    have b2 : (t : Int) ≤ 20000 := by omega
    simp -implicitDefEqProofs [encN, s_is_whole (N := N) (k := k) (by omega), b2]
  have h3 := q_all (l := hs) (p := fun _ => true)
  rw [List.all_eq_true.mpr (fun _ _ => rfl)] at h3
  generalize (hs.map fun _ => PyData.bool true) = A at h3 ⊢
  simp -implicitDefEqProofs [h3]
theorem s_numbers_to (hk : 2 ≤ k) (ts : List Nat) (ht : ts.length ≤ 10) (h1 : ∀ t ∈ ts, 1 ≤ t) (n : Nat) (hn : n ≤ 20000) (hN : 100 ≤ N) : evF P N k 20 [.val (.tuple (ts.map encN)), .val (.int (n : Nat))] = some (.list ((numsN ts (n + 1)).map encN), [.val (.tuple (ts.map encN)), .val (.int (n : Nat))]) := by
  obtain ⟨k, rfl, hj⟩ := exS hk
  refine ev_call p20 rfl ?_
  simp -implicitDefEqProofs [f20, E.fresh]
  refine ss_forP [.int ((n + 1 : Nat) : Int)] (List.range (n + 1)) encN (fun (done : List Nat) ρ => ∃ g : Slot, ρ = [Slot.val (.tuple (ts.map encN)), .val (.int (n : Nat)), .olst false ((done.foldl (addN ts) []).map encN), g, .none]) ?_ ?_ ?_ ?_ ?_
  · simp
  · exact sq_rng1 (by omega)
  · exact ⟨_, rfl⟩
  · rintro done h rest ρ hd ⟨g, rfl⟩
    have hdone : done = List.range h ∧ h < n + 1 := by
      have h2 : (List.range (n + 1))[done.length]? = some h := by rw [hd]; simp
      have h3 : done.length < n + 1 := by
        have : (List.range (n + 1)).length = done.length + 1 + rest.length := by rw [hd]; simp; omega
        simp at this; omega
      rw [List.getElem?_range h3] at h2
      have h4 : done.length = h := by simpa using h2
      refine ⟨?_, by omega⟩
      have := congrArg (List.take done.length) hd
      simp at this
      rw [← this, h4, Nat.min_eq_left (by omega)]
    obtain ⟨hdone, hh⟩ := hdone
    obtain ⟨fo, hfo⟩ : ∃ fo, fo = done.foldl (addN ts) [] := ⟨_, rfl⟩
    have hfl : fo.length = h := by rw [hfo, hdone]; exact numsN_len h
    rw [List.foldl_append, List.foldl_cons, List.foldl_nil, ← hfo]
    have hsrc : (done ++ [h]).foldl (addN ts) [] = addN ts fo h := by rw [List.foldl_append, ← hfo]; rfl
    have hlen : ((ts.filter fun t => decide (t ≤ h)).map fun t => fo.getD (h - t) 0).length ≤ 10 := by
      rw [List.length_map]; exact Nat.le_trans (List.length_filter_le _ _) ht
    have em := s_missing_in (N := N) (k := k) (by omega) ((ts.filter fun t => decide (t ≤ h)).map fun t => fo.getD (h - t) 0) (by omega) (by unfold sz; omega)
    have hout : (fo.map encN ++ [.int ((mexN ((ts.filter fun t => decide (t ≤ h)).map fun t => fo.getD (h - t) 0) : Nat) : Int)]) = (addN ts fo h).map encN := by rw [addN, List.map_append]; rfl
    rw [List.map_map] at em
    simp -implicitDefEqProofs [encN]
    rw [ev_filt [.tuple (ts.map encN)] ts encN (fun t => decide (t ≤ h)) (fun t => encN (fo.getD (h - t) 0)) ?_ ?_ ?_ (by unfold sz; omega) ?_]
    rotate_left
    · simp
    · simp
    · simp
    · intro t htm
      refine ⟨[.val (.tuple (ts.map encN)), .val (.int (n : Nat)), .olst false (fo.map encN), .val (.int (h : Nat)), .val (.int (t : Nat))], ?_, ?_, ?_⟩
      · simp [encN]
      · simp
      · intro hth
        have h5 : t ≤ h := by simpa using hth
        have h6 := h1 t htm
        have : primS .ix [.list (fo.map encN), .int ((h : Int) - t)] = some (encN (fo.getD (h - t) 0)) := by
          rw [q_ixL, show ((h : Int) - t) = ((h - t : Nat) : Int) by omega]
          refine atL_nat ?_
          have : h - t < fo.length := by omega
          simp [List.getElem?_map, List.getD, this]
        simp -implicitDefEqProofs
        rw [show (Prim.ix).pkOk = true from rfl]
        simp -implicitDefEqProofs
        rw [← q_ixL, this]
        simp
    generalize hm : mexN ((ts.filter fun t => decide (t ≤ h)).map fun t => fo.getD (h - t) 0) = m at em hout
    rw [show (encN ∘ fun t => fo.getD (h - t) 0) = fun t => encN (fo.getD (h - t) 0) from rfl] at em
    generalize ((ts.filter fun t => decide (t ≤ h)).map fun t => encN (fo.getD (h - t) 0)) = A at em ⊢
    generalize (addN ts fo h).map encN = B at hout ⊢
    have hfz : (fo.map encN).length < sz := by rw [List.length_map]; unfold sz; omega
    simp -implicitDefEqProofs [em, appK_0 hfz, hout]
  · rintro ρ ⟨g, rfl⟩
    rw [show (List.range (n + 1)).foldl (addN ts) [] = numsN ts (n + 1) from rfl]
    simp
theorem s_max0 {hs : List Nat} (hl : hs.length ≤ 12) : (thenO (some ([PyData.tuple (hs.map encN), PyData.tuple [.int 0]], ([] : G.Env))) fun vs ρ => (primS .add vs).map fun v => (v, ρ)) = some (PyData.tuple (hs.map encN ++ [.int 0]), []) := by
  simp -implicitDefEqProofs [q_addT (xs := hs.map encN) (ys := [.int 0]) (by simp; unfold sz; omega)]
theorem s_numbers_of (hk : 3 ≤ k) (ts hs : List Nat) (T : TOk ts) (H : HOk hs) (hN : 100 ≤ N) : evF P N k 21 [.val (.tuple (ts.map encN)), .val (.tuple (hs.map encN))] = some (.list ((nimsOf ts hs).map encN), [.val (.tuple (ts.map encN)), .val (.tuple (hs.map encN))]) := by
  obtain ⟨k, rfl, hj⟩ := exS hk
  refine ev_call p21 rfl ?_
  have hle := H.le
  have ha := q_addT (xs := hs.map encN) (ys := [.int 0]) (by simp; unfold sz; omega)
  have hm := max1_h (hs := hs)
  have e := s_numbers_to (N := N) (k := k) (by omega) ts T.le (fun t ht => (T.all t ht).1) (maxN hs) (maxN_le H.all) hN
  have hnl : (numsN ts (maxN hs + 1)).length = maxN hs + 1 := numsN_len _
  have hge := fun x hx => maxN_ge (l := hs) x hx
  unfold nimsOf
  generalize numsN ts (maxN hs + 1) = nums at e hnl ⊢
  generalize hs.map encN ++ [.int 0] = B at ha hm
  generalize maxN hs = m at e hm hnl hge
  simp -implicitDefEqProofs [f21, ha, hm, e]
  rw [ev_map [.tuple (hs.map encN)] hs encN (fun h => encN (nums.getD h 0)) ?_ ?_ ?_ (by unfold sz; omega) ?_]
  rotate_left
  · simp
  · simp
  · simp
  · intro h hh
    have h1 := hge h hh
    have : atL (nums.map encN) (h : Int) = some (encN (nums.getD h 0)) := atL_nat (by
      have : h < nums.length := by omega
      simp [List.getElem?_map, List.getD, this])
    simp -implicitDefEqProofs
    rw [show encN h = .int (h : Nat) from rfl, q_ixL, this]
    simp
  simp -implicitDefEqProofs
theorem s_heaps_lost (hk : 4 ≤ k) (ts hs : List Nat) (T : TOk ts) (H : HOk hs) (hN : 100 ≤ N) : evF P N k 22 [.val (.tuple (ts.map encN)), .val (.tuple (hs.map encN))] = some (.bool (lostN ts hs), [.val (.tuple (ts.map encN)), .val (.tuple (hs.map encN))]) := by
  obtain ⟨k, rfl, hj⟩ := exS hk
  refine ev_call p22 rfl ?_
  have e1 := s_need_takings (N := N) (k := k) (by omega) ts T
  have e2 := s_need_few (N := N) (k := k) (by omega) hs H
  have e3 := s_numbers_of (N := N) (k := k) (by omega) ts hs T H hN
  have hl : (nimsOf ts hs).length ≤ sz := by unfold nimsOf; rw [List.length_map]; have := H.le; unfold sz; omega
  have e4 := s_joined (N := N) (k := k) (by omega) (nimsOf ts hs) hl
  have e5 : ∀ j : Nat, primS .eq [.int (j : Nat), .int 0] = some (.bool (j == 0)) := by
    intro j; rw [q_eqI, Bool.eq_iff_iff.mpr (show (((j : Int) == 0) = true ↔ (j == 0) = true) by simp)]
  unfold lostN
  generalize joinN (nimsOf ts hs) = j at e4 ⊢
  generalize (nimsOf ts hs).map encN = L at e3 e4
  simp -implicitDefEqProofs [f22, e1, e2, e3, e4, -q_eqI, e5]
theorem s_winning_takes (hk : 4 ≤ k) (ts hs : List Nat) (T : TOk ts) (H : HOk hs) (hN : 100 ≤ N) : evF P N k 23 [.val (.tuple (ts.map encN)), .val (.tuple (hs.map encN))] = some (.tuple ((winsN ts hs).map encP), [.val (.tuple (ts.map encN)), .val (.tuple (hs.map encN))]) := by
  obtain ⟨k, rfl, hj⟩ := exS hk
  refine ev_call p23 rfl ?_
  have hle := H.le
  have e1 := s_need_takings (N := N) (k := k) (by omega) ts T
  have e2 := s_need_few (N := N) (k := k) (by omega) hs H
  have ha := q_addT (xs := hs.map encN) (ys := [.int 0]) (by simp; unfold sz; omega)
  have hm := max1_h (hs := hs)
  have e := s_numbers_to (N := N) (k := k) (by omega) ts T.le (fun t ht => (T.all t ht).1) (maxN hs) (maxN_le H.all) hN
  have hnl : (numsN ts (maxN hs + 1)).length = maxN hs + 1 := numsN_len _
  have hge := fun x hx => maxN_ge (l := hs) x hx
  have hl : (nimsOf ts hs).length ≤ sz := by unfold nimsOf; rw [List.length_map]; unfold sz; omega
  have e4 := s_joined (N := N) (k := k) (by omega) (nimsOf ts hs) hl
  unfold winsN
  unfold nimsOf at e4 ⊢
  generalize numsN ts (maxN hs + 1) = nums at e hnl e4 ⊢
  generalize hs.map encN ++ [.int 0] = B at ha hm
  generalize maxN hs = m at e hm hnl hge
  generalize joinN (hs.map fun h => nums.getD h 0) = w at e4 ⊢
  have hat : ∀ h : Nat, h ≤ m → atL (nums.map encN) (h : Int) = some (encN (nums.getD h 0)) := fun h hh => atL_nat (by
      have : h < nums.length := by omega
      simp [List.getElem?_map, List.getD, this])
  simp -implicitDefEqProofs [f23, e1, e2, ha, hm, e, parOk, E.fresh, Prim.fresh, Es.freshAt]
  rw [ev_map [.tuple (hs.map encN)] hs encN (fun h => encN (nums.getD h 0)) ?_ ?_ ?_ (by unfold sz; omega) ?_]
  rotate_left
  · simp
  · simp
  · simp
  · intro h hh
    simp -implicitDefEqProofs
    rw [show encN h = .int (h : Nat) from rfl, q_ixL, hat h (hge h hh)]
    simp
  rw [List.map_map] at e4
  rw [show (encN ∘ fun h => nums.getD h 0) = fun h => encN (nums.getD h 0) from rfl] at e4
  generalize (hs.map fun h => encN (nums.getD h 0)) = A at e4 ⊢
  simp -implicitDefEqProofs [e4]
  refine ss_forP [.tuple (hs.map encN)] hs.zipIdx (fun p => .tuple [.int p.2, encN p.1]) (fun (done : List (Nat × Nat)) ρ => ∃ g3 g6 g7 : Slot, ρ = [Slot.val (.tuple (ts.map encN)), .val (.tuple (hs.map encN)), .val (.list (nums.map encN)), g3, .val (.int (w : Nat)), .val (.list ((done.foldl (winAt ts nums w) []).map encP)), g6, g7, .none]) ?_ ?_ ?_ ?_ ?_
  · simp
  · rw [sq_enumT, List.zipIdx_map, List.map_map]; rfl
  · exact ⟨_, _, _, rfl⟩
  · rintro done ⟨h, c⟩ rest ρ hd ⟨g3, g6, g7, rfl⟩
    have hmem : (h, c) ∈ hs.zipIdx := by rw [hd]; simp
    have hh : h ∈ hs := by rw [List.mem_zipIdx_iff_getElem?] at hmem; exact List.mem_of_getElem? hmem
    have hhm := hge h hh
    have htl := T.le
    have hdl : done.length + 1 ≤ 12 := by
      have : hs.zipIdx.length = done.length + 1 + rest.length := by rw [hd]; simp; omega
      simp at this
      omega
    have hacc : ∀ (l : List (Nat × Nat)) (acc : List (Nat × Nat)), (l.foldl (winAt ts nums w) acc).length ≤ acc.length + 10 * l.length := by
      intro l
      induction l with
      | nil => intro acc; simp
      | cons p l ih =>
        intro acc
        rw [List.foldl_cons]
        refine Nat.le_trans (ih _) ?_
        unfold winAt
        have := List.length_filter_le (fun t => decide (t ≤ p.1) && nums.getD (p.1 - t) 0 == w ^^^ nums.getD p.1 0) ts
        rw [List.length_append, List.length_map, List.length_cons]
        omega
    have h3 := hacc done []
    rw [List.foldl_append, List.foldl_cons, List.foldl_nil]
    obtain ⟨acc, hac⟩ : ∃ acc, acc = done.foldl (winAt ts nums w) [] := ⟨_, rfl⟩
    rw [← hac] at h3 ⊢
    obtain ⟨nf, hnf⟩ : ∃ nf : Nat → Nat, ∀ h, nums.getD h 0 = nf h := ⟨fun h => nums.getD h 0, fun _ => rfl⟩
    obtain ⟨gl, hgl⟩ : ∃ gl, gl = w ^^^ nf h := ⟨_, rfl⟩
    have hadd : primS .add [.list (acc.map encP), .list ((ts.filter fun t => decide (t ≤ h) && nf (h - t) == gl).map fun t => encP (c, t))] = some (.list ((winAt ts nums w acc (h, c)).map encP)) := by
      have := List.length_filter_le (fun t => decide (t ≤ h) && nf (h - t) == gl) ts
      rw [q_addL (by rw [List.length_append, List.length_map, List.length_map]; simp at h3; unfold sz; omega)]
      rw [winAt, List.map_append, List.map_map]
      simp only [hnf, hgl]
      rfl
    generalize (winAt ts nums w acc (h, c)).map encP = B2 at hadd ⊢
    have hat2 : ∀ h : Nat, h ≤ m → atL (nums.map encN) (h : Int) = some (.int ((nf h : Nat) : Int)) := fun h hh => by rw [hat h hh, hnf]; rfl
    have hix := hat2 h hhm
    simp -implicitDefEqProofs [encN]
    rw [hix]
    simp -implicitDefEqProofs [bitXor_nat, ← hgl]
    rw [ev_filt [.tuple (ts.map encN)] ts encN (fun t => decide (t ≤ h) && nf (h - t) == gl) (fun t => encP (c, t)) ?_ ?_ ?_ (by unfold sz; omega) ?_]
    rotate_left
    · simp
    · simp
    · simp
    · intro t ht
      have h5 : t ≤ h → atL (nums.map encN) ((h : Int) - t) = some (.int ((nf (h - t) : Nat) : Int)) := by
        intro hth
        rw [show ((h : Int) - t) = ((h - t : Nat) : Int) by omega]
        exact hat2 (h - t) (by omega)
      have h6 : ∀ a b : Nat, primS .eq [.int (a : Nat), .int (b : Nat)] = some (.bool (a == b)) := by
        intro a b; rw [q_eqI, Bool.eq_iff_iff.mpr (show (((a : Int) == (b : Int)) = true ↔ (a == b) = true) by simp; omega)]
      by_cases hth : t ≤ h
      · simp -implicitDefEqProofs [encN, hth, h5 hth, encP, -q_eqI, h6]
        exact Bool.eq_iff_iff.mpr (by simp)
      · simp -implicitDefEqProofs [encN, hth, encP]
    generalize ((ts.filter fun t => decide (t ≤ h) && nf (h - t) == gl).map fun t => encP (c, t)) = A2 at hadd ⊢
    simp -implicitDefEqProofs [hadd]
  · rintro ρ ⟨g3, g6, g7, rfl⟩
    simp
end
end LK88
namespace LK88
open PySem G
/-! ### _law_takings -/
section
open TK RT AR K88
variable {N k : Nat}
theorem gm_T {ts : List Nat} (T : TOk ts) {h : Nat} {d : AV} (hd : ∀ x, x ≤ h → ixS d (encN x) = some (.list ((mvT ts x).map encN))) : Gm encN d (mvT ts) (smT ts) (fun x => x ≤ h) where
  enc := encN_ok
  look := hd
  set := fun x _ => sset_N (by have := mvT_len (ts := ts) (x := x); have := T.le; omega)
  clo := fun x hx y hy => Nat.le_trans (mvT_le (sortK_mem hy)) hx
  few := fun x _ => by have := mvT_len (ts := ts) (x := x); have := T.le; have := sortK_len (f := fun n : Nat => (n : Int)) (l := mvT ts x); unfold smT sortT; omega
theorem s_law_takings (hk : 11 ≤ k) (hN : 100 ≤ N) {K : AV → List Slot → Bool} (hK : K (.bool true) [.cup] = true) : wpF P N k 47 [.cup] K = true := by
  obtain ⟨k, rfl, hj⟩ := exS hk
  refine wpF_enter p47 rfl ?_
  simp only [f47]
  refine wp_asg (wp_prim (wp_cons (wp_prim (wp_cons ?_))))
  refine wp_comp (fun vs ρ1 => ∃ r : Nat, r < 4 ∧ vs = [.int ((r + 1 : Nat) : Int)] ∧ ρ1 = [.cup, .none, .none, .none, .none, .none, .none, .none, .none]) (fun _ y => ∃ r : Nat, r < 6 ∧ y = encN (r + 1)) ?_ ?_
  · intro K' hK'
    refine wp_cons (wp_prim (wp_cons ?_))
    simp only [wpE]
    refine wp_cons (wp_roll (n := 4) rfl (by omega) (by omega) fun r hr => ?_)
    simp [wpEs]
    exact hK' _ _ ⟨r, hr, by simp; omega, rfl⟩
  · rintro vs ρ1 ⟨m, hm, rfl, rfl⟩
    refine ⟨_, sq_rng1 (by omega), by simp, by simp; unfold sz; omega, ?_, ?_⟩
    · intro x hx
      refine ⟨_, rfl, fun K' hK' => ?_⟩
      refine wp_prim (wp_cons ?_)
      simp only [wpE]
      refine wp_cons (wp_roll (n := 6) rfl (by omega) (by omega) fun r hr => ?_)
      simp [wpEs]
      exact hK' _ ⟨r, hr, by simp [encN]; omega⟩
    · intro ys hys
      have hlen : ys.length = m + 1 := by rw [hys.len]; simp
      obtain ⟨l, rfl, hl⟩ : ∃ l : List Nat, ys = l.map encN ∧ ∀ x ∈ l, 1 ≤ x ∧ x ≤ 6 := by
        clear hlen
        generalize (List.range (m + 1)).map (fun (m : Nat) => PyData.int (m : Int)) = xs at hys
        induction hys with
        | nil => exact ⟨[], rfl, by simp⟩
        | cons h t ih =>
          obtain ⟨r, hr, rfl⟩ := h
          obtain ⟨l, rfl, hl⟩ := ih
          exact ⟨(r + 1) :: l, rfl, by simp; exact ⟨by omega, hl⟩⟩
      rw [List.length_map] at hlen
      have hts := T56_of (m := m + 1) (by omega) (by omega) hlen hl
      generalize hsort : sortT l = ts at hts
      have hss : primS .sset [.list (l.map encN)] = some (.list (ts.map encN)) := by rw [q_sset, sset_N (by omega), hsort]
      simp only [wpEs, hss, q_tupL, as_nm]
      rw [if_pos (by simp)]
      dsimp only [List.set]
      refine wp_asg (wp_roll (n := 12) rfl (by omega) (by omega) fun h hh => ?_)
      simp only [as_nm]
      rw [if_pos (by simp)]
      dsimp only [List.set]
      have hgame := T56_game hts hh
      have T := T56_tok hts
      clear hss hsort hlen hl hys l hm
      refine wp_of_ss ?_
      unfold gameT at hgame
      rw [Bool.and_eq_true] at hgame
      obtain ⟨hg1, hg2⟩ := hgame
      have hg2 : winsN ts [h] = (ts.filter fun t => decide (t ≤ h) && lostT ts (h - t)).map fun t => (0, t) := by simpa using hg2
      -- the dict of moves
      have hd1 := q_dictP encN_ok (l := (List.range (h + 1)).map fun x => (x, PyData.list ((mvT ts x).map encN))) (by intro p _; rfl)
      have hd2 := q_dictP encN_ok (l := (List.range (h + 1)).map fun x => (x, PyData.bool (lostT ts x))) (by intro p _; rfl)
      rw [List.map_map] at hd1 hd2
      have hlk : ∀ (g : Nat → AV) x, x ≤ h → ixS (mkD 0 ((mergeN [] ((List.range (h + 1)).map fun x => (x, g x))).map (encK encN))) (encN x) = some (g x) := by
        intro g x hx
        rw [ixS_mkD encN_ok (by rfl), look_merge (w := g x) _ _ (by intro p hp e; rw [List.mem_map] at hp; obtain ⟨y, _, rfl⟩ := hp; dsimp only at e ⊢; rw [e])]
        rw [if_pos]
        rw [List.any_eq_true]
        exact ⟨(x, g x), by rw [List.mem_map]; exact ⟨x, by simp; omega, rfl⟩, by simp⟩
      have hk1 := hlk fun x => .list ((mvT ts x).map encN)
      have hk2 := hlk fun x => .bool (lostT ts x)
      clear hlk
      generalize mkD 0 ((mergeN [] ((List.range (h + 1)).map fun x => (x, PyData.list ((mvT ts x).map encN)))).map (encK encN)) = d at hd1 hk1
      generalize mkD 0 ((mergeN [] ((List.range (h + 1)).map fun x => (x, PyData.bool (lostT ts x)))).map (encK encN)) = dl at hd2 hk2
      have er := s_law_right (N := N) (k := k) (by omega) (dl := dl) (lost := lostT ts) (gm_T T hk1) hk2 (start := h) (Nat.le_refl _) (fun x _ => by have := mvT_len (ts := ts) (x := x); have := T.le; omega) hg1
      have H : ∀ x, x ≤ h → HOk [x] := fun x hx => ⟨by simp, by simp; omega⟩
      have el := fun x hx => s_heaps_lost (N := N) (k := k) (by omega) ts [x] T (H x hx) hN
      have ew := s_winning_takes (N := N) (k := k) (by omega) ts [h] T (H h (Nat.le_refl _)) hN
      have hwl : ((ts.filter fun t => decide (t ≤ h) && lostT ts (h - t)).map fun t => (0, t)).length ≤ 10 := by
        rw [List.length_map]; exact Nat.le_trans (List.length_filter_le _ _) T.le
      have ek := s_like (N := N) 2 (k := k) (by omega) (.tuple (((ts.filter fun t => decide (t ≤ h) && lostT ts (h - t)).map fun t => (0, t)).map encP)) (by
        simp only [WF, Bool.and_eq_true, decide_eq_true_eq, List.all_eq_true]
        refine ⟨by rw [List.length_map]; unfold sz; omega, ?_⟩
        intro v hv
        rw [List.mem_map] at hv
        obtain ⟨p, _, rfl⟩ := hv
        simp [encP, WF, sz])
      rw [hg2] at ew
      have htl := T.le
      have hA : ∀ os, outs [Slot.cup] os = (match os with
        | .cup :: _ => some [Slot.cup]
        | _ => none) := by
        intro os; cases os with
        | nil => rfl
        | cons s r => cases s <;> rfl
      simp -implicitDefEqProofs
      rw [ev_map [.int ((h + 1 : Nat) : Int)] (List.range (h + 1)) encN (fun x => .tuple [encN x, .list ((mvT ts x).map encN)]) ?_ ?_ ?_ ?_ ?_]
      rotate_left
      · simp
      · exact sq_rng1 (by omega)
      · simp
      · simp; unfold sz; omega
      · intro x hx
        simp -implicitDefEqProofs
        rw [ev_filt [.tuple (ts.map encN)] ts encN (fun t => decide (t ≤ x)) (fun t => encN (x - t)) ?_ ?_ ?_ (by unfold sz; omega) ?_]
        rotate_left
        · simp
        · simp
        · simp
        · intro t ht
          by_cases htx : t ≤ x
          · simp [encN, htx]; omega
          · simp [encN, htx]
        have : ((ts.filter fun t => decide (t ≤ x)).map fun t => encN (x - t)) = (mvT ts x).map encN := by rw [mvT, List.map_map]; rfl
        rw [this]
        simp
      rw [show ((fun p : Nat × AV => PyData.tuple [encN p.1, p.2]) ∘ fun x => (x, PyData.list ((mvT ts x).map encN))) = fun x => PyData.tuple [encN x, .list ((mvT ts x).map encN)] from rfl] at hd1
      generalize ((List.range (h + 1)).map fun x => PyData.tuple [encN x, .list ((mvT ts x).map encN)]) = D1 at hd1 ⊢
      simp -implicitDefEqProofs [hd1]
      rw [ev_map [.int ((h + 1 : Nat) : Int)] (List.range (h + 1)) encN (fun x => .tuple [encN x, .bool (lostT ts x)]) ?_ ?_ ?_ ?_ ?_]
      rotate_left
      · simp
      · exact sq_rng1 (by omega)
      · simp
      · simp; unfold sz; omega
      · intro x hx
        have := el x (by have : x < h + 1 := by simpa using hx
                         omega)
        simp only [List.map_cons, List.map_nil] at this
        simp -implicitDefEqProofs [this, lostT]
      rw [show ((fun p : Nat × AV => PyData.tuple [encN p.1, p.2]) ∘ fun x => (x, PyData.bool (lostT ts x))) = fun x => PyData.tuple [encN x, .bool (lostT ts x)] from rfl] at hd2
      generalize ((List.range (h + 1)).map fun x => PyData.tuple [encN x, .bool (lostT ts x)]) = D2 at hd2 ⊢
      rw [show encN h = .int (h : Nat) from rfl] at er
      simp -implicitDefEqProofs [hd2, er]
      rw [ev_filt [.tuple (ts.map encN)] ts encN (fun t => decide (t ≤ h) && lostT ts (h - t)) (fun t => encP (0, t)) ?_ ?_ ?_ (by unfold sz; omega) ?_]
      rotate_left
      · simp
      · simp
      · simp
      · intro t ht
        by_cases htx : t ≤ h
        · have := hk2 (h - t) (by omega)
          rw [show encN (h - t) = .int ((h : Int) - t) by simp [encN]; omega] at this
          simp -implicitDefEqProofs [encN, htx, q_ixD, this, encP]
        · simp -implicitDefEqProofs [encN, htx, encP]
      rw [List.map_map] at ew ek
      rw [show (encP ∘ fun t : Nat => (0, t)) = fun t => encP (0, t) from rfl] at ew ek
      simp only [List.map_cons, List.map_nil] at ew
      rw [show encN h = .int (h : Nat) from rfl] at ew
      generalize ((ts.filter fun t => decide (t ≤ h) && lostT ts (h - t)).map fun t => encP (0, t)) = W at ew ek ⊢
      simp -implicitDefEqProofs [ew, ek, Asks, hA, hK]
end
end LK88
namespace LK88
open PySem G
/-! ### the games of pairs, by plain functions in the place of _law_right -/
section
open TK RT AR K88
variable {N k : Nat}
def acc (f : Nat) (a : List Slot) : Option (AV × List Slot) := if f = 46 then acc46 a else none
theorem acc_ok (f : Nat) (a : List Slot) (r : AV × List Slot) (h : acc f a = some r) : evF P N 8 f a = some r := by
  unfold acc at h
  split at h
  · rename_i hf
    subst hf
    unfold acc46 at h
    split at h
    · rename_i kvs s bvs
      split at h
      · rename_i l p b h1 h2 h3
        split at h
        · rename_i hok
          cases h
          rw [decM_ok h1, decP_ok h2, decB_ok h3]
          unfold pairOk at hok
          simp only [Bool.and_eq_true] at hok
          obtain ⟨⟨⟨k1, k2⟩, k3⟩, k4⟩ := hok
          have q : ∀ x : Nat × Nat, l.any (fun z => z.1 == x) = true → (getP [] x l).length < 60 ∧ ∀ y ∈ getP [] x l, (y.1 < 4294967296 ∧ y.2 < 4294967296) ∧ l.any (fun z => z.1 == y) = true := by
            intro x hx
            have := List.all_eq_true.mp k1 _ (getP_mem (z := []) hx)
            simp only [Bool.and_eq_true, decide_eq_true_eq, List.all_eq_true] at this
            exact this
          have G : Gm encP (mkD 1 ((l.map outM).map (encK encP))) (fun x => getP [] x l) (fun x => getP [] x (l.map fun p => (p.1, sortP p.2))) (fun x => l.any (fun z => z.1 == x) = true) := by
            refine ⟨encP_ok, fun x hx => ?_, fun x hx => ?_, fun x hx y hy => ?_, fun x hx => ?_⟩
            · rw [ixS_mkD encP_ok (by rfl), look_M hx]
            · have := q x hx
              rw [sset_P (by omega) fun p hp => (this.2 p hp).1]
              rw [getP_sort]
            · rw [getP_sort] at hy
              exact ((q x hx).2 y (sortK_mem hy)).2
            · have := q x hx
              rw [getP_sort]
              exact Nat.le_trans sortK_len (by omega)
          have hl : ∀ x : Nat × Nat, l.any (fun z => z.1 == x) = true → ixS (mkD 1 ((b.map outB).map (encK encP))) (encP x) = some (.bool (getP false x b)) := by
            intro x hx
            have := List.all_eq_true.mp k2 _ (getP_mem (z := []) hx)
            rw [ixS_mkD encP_ok (by rfl), look_B this]
          exact s_law_right (N := N) (k := 8) (by omega) G hl k3 (fun x hx => by have := (q x hx).1; omega) k4
        · cases h
      · cases h
    · cases h
  · cases h
def isT : Out → Bool
  | .rt (.bool true) (.cup :: _) => true
  | _ => false
theorem rest_ok {s : S} {ρ : G.Env} (h : isT (evS (evA acc P 200 4) 200 s ρ) = true) {K : AV → List Slot → Bool} (hK : K (.bool true) [.cup] = true) :
    wpS (wpF P 200 12) 200 s ρ ⟨fun ρ => (match outs [.cup] ρ with | some os => K .none os | none => false), fun v ρ => (match outs [.cup] ρ with | some os => K v os | none => false), fun _ => false, fun _ => false⟩ = true := by
  refine wp_of_ss ?_
  rw [ss_def]
  have hle := evS_le (evA_ok (P := P) (N := 200) (m := 8) acc_ok 4) s ρ (N := 200)
  rcases hle with hle | hle
  · rw [hle] at h; cases h
  · rw [← hle]
    generalize evS (evA acc P 200 4) 200 s ρ = o at h
    unfold isT at h
    split at h
    · exact hK
    · cases h
def body3 : S → S
  | .seq _ (.seq _ b) => b
  | s => s
def body2 : S → S
  | .seq _ b => b
  | s => s
def bothB (a : Nat) : Bool := (List.range (a + 1)).all fun b => isT (evS (evA acc P 200 4) 200 (body3 f48.body) [.cup, .val (.int (a : Nat)), .val (.int (b : Nat)), .none, .none, .none, .none, .none, .none, .none, .none])
theorem both0 : bothB 0 = true := by decide +kernel
theorem both1 : bothB 1 = true := by decide +kernel
theorem both2 : bothB 2 = true := by decide +kernel
theorem both3 : bothB 3 = true := by decide +kernel
theorem both_ok : ∀ a, a < 4 → bothB a = true
  | 0, _ => both0
  | 1, _ => both1
  | 2, _ => both2
  | 3, _ => both3
  | n + 4, h => by omega
def doublingB (a : Nat) : Bool := (List.range 4).all fun b => isT (evS (evA acc P 200 4) 200 (body2 f50.body) [.cup, .val (.tuple [.int (a : Nat), .int ((1 : Int) + (b : Nat))]), .none, .none, .none, .none, .none, .none, .none, .none])
theorem doubling0 : doublingB 0 = true := by decide +kernel
theorem doubling1 : doublingB 1 = true := by decide +kernel
theorem doubling2 : doublingB 2 = true := by decide +kernel
theorem doubling3 : doublingB 3 = true := by decide +kernel
theorem doubling4 : doublingB 4 = true := by decide +kernel
theorem doubling5 : doublingB 5 = true := by decide +kernel
theorem doubling_ok : ∀ a, a < 6 → doublingB a = true
  | 0, _ => doubling0
  | 1, _ => doubling1
  | 2, _ => doubling2
  | 3, _ => doubling3
  | 4, _ => doubling4
  | 5, _ => doubling5
  | n + 6, h => by omega
def euclidB (a : Nat) : Bool := (List.range 12).all fun b => isT (evS (evA acc P 200 4) 200 (body2 f49.body) [.cup, .val (.int (a : Nat)), .val (.int (b : Nat)), .none, .none, .none, .none, .none, .none, .none, .none, .none, .none, .none, .none])
theorem euclid0 : euclidB 0 = true := by decide +kernel
theorem euclid1 : euclidB 1 = true := by decide +kernel
theorem euclid2 : euclidB 2 = true := by decide +kernel
theorem euclid3 : euclidB 3 = true := by decide +kernel
theorem euclid4 : euclidB 4 = true := by decide +kernel
theorem euclid5 : euclidB 5 = true := by decide +kernel
theorem euclid6 : euclidB 6 = true := by decide +kernel
theorem euclid7 : euclidB 7 = true := by decide +kernel
theorem euclid8 : euclidB 8 = true := by decide +kernel
theorem euclid9 : euclidB 9 = true := by decide +kernel
theorem euclid10 : euclidB 10 = true := by decide +kernel
theorem euclid11 : euclidB 11 = true := by decide +kernel
theorem euclid_ok : ∀ a, a < 12 → euclidB a = true
  | 0, _ => euclid0
  | 1, _ => euclid1
  | 2, _ => euclid2
  | 3, _ => euclid3
  | 4, _ => euclid4
  | 5, _ => euclid5
  | 6, _ => euclid6
  | 7, _ => euclid7
  | 8, _ => euclid8
  | 9, _ => euclid9
  | 10, _ => euclid10
  | 11, _ => euclid11
  | n + 12, h => by omega
end
end LK88
namespace LK88
open PySem G
section
open TK RT AR K88
variable {N k : Nat}
theorem all_at {n : Nat} {p : Nat → Bool} (h : (List.range n).all p = true) {x : Nat} (hx : x < n) : p x = true := List.all_eq_true.mp h x (by simpa using hx)
theorem s_law_both {K : AV → List Slot → Bool} (hK : K (.bool true) [.cup] = true) : wpF P 200 13 48 [.cup] K = true := by
  refine wpF_enter p48 rfl ?_
  have hb := fun (a b : Nat) (ha : a < 4) (hb : b < a + 1) => all_at (both_ok a ha) hb
  simp only [f48] at hb ⊢
  dsimp only [body3] at hb
  refine wp_asg (wp_roll (n := 4) rfl (by omega) (by omega) fun a ha => ?_)
  simp only [as_nm]
  rw [if_pos (by simp)]
  dsimp only [List.set]
  refine wp_asg (wp_rollE rfl (wp_prim (wp_cons ?_)))
  simp [wpE, wpEs, isCup]
  refine ⟨by omega, allB_iff.mpr fun b hb2 => ?_⟩
  exact rest_ok (hb a b ha (by omega)) hK
theorem s_law_euclid {K : AV → List Slot → Bool} (hK : K (.bool true) [.cup] = true) : wpF P 200 13 49 [.cup] K = true := by
  refine wpF_enter p49 rfl ?_
  have hb := fun (a b : Nat) (ha : a < 12) (hb : b < 12) => all_at (euclid_ok a ha) hb
  simp only [f49] at hb ⊢
  dsimp only [body2] at hb
  rw [wpS, wpS, if_pos (by rfl)]
  refine wp_cons (wp_roll (n := 12) rfl (by omega) (by omega) fun a ha => ?_)
  refine wp_cons (wp_roll (n := 12) rfl (by omega) (by omega) fun b hb2 => ?_)
  simp only [wpEs]
  simp
  exact rest_ok (hb a b ha hb2) hK
theorem s_law_doubling {K : AV → List Slot → Bool} (hK : K (.bool true) [.cup] = true) : wpF P 200 13 50 [.cup] K = true := by
  refine wpF_enter p50 rfl ?_
  have hb := fun (a b : Nat) (ha : a < 6) (hb : b < 4) => all_at (doubling_ok a ha) hb
  simp only [f50] at hb ⊢
  dsimp only [body2] at hb
  refine wp_asg (wp_prim ?_)
  refine wp_cons (wp_roll (n := 6) rfl (by omega) (by omega) fun a ha => ?_)
  refine wp_cons (wp_prim (wp_cons ?_))
  simp only [wpE]
  refine wp_cons (wp_roll (n := 4) rfl (by omega) (by omega) fun b hb2 => ?_)
  simp [wpEs]
  exact rest_ok (hb a b ha hb2) hK
end
end LK88
namespace LK88
open PySem G
/-! ### the law -/
section
open TK RT AR K88
def isT2 : Out → Bool
  | .rt (.bool true) _ => true
  | _ => false
theorem last_ok (g : Slot) : isT2 (evS (evA (fun _ _ => none) P 200 9) 200 (body2 lawS) [.none, .cup, g, .none, .none, .none, .none, .none]) = true := by kernel_rfl
theorem last_wp {s : S} {ρ : G.Env} (h : isT2 (evS (evA (fun _ _ => none) P 200 9) 200 s ρ) = true) : wpS (wpF P 200 13) 200 s ρ lawKs = true := by
  refine wp_of_ss ?_
  rw [ss_def]
  have hle := evS_le (evA_ok (acc := fun _ _ => none) (P := P) (N := 200) (m := 4) (fun f a r h => by cases h) 9) s ρ (N := 200)
  rcases hle with hle | hle
  · rw [hle] at h; cases h
  · rw [← hle]
    generalize evS (evA (fun _ _ => none) P 200 9) 200 s ρ = o at h
    unfold isT2 at h
    split at h
    · rfl
    · cases h
end
end LK88
namespace LK88
open PySem G
section
open TK RT AR K88
theorem all_turns {K : AV → List Slot → Bool} (hK : K (.bool true) [.cup] = true) : wpF P 200 13 47 [.cup] K = true := s_law_takings (by omega) (by omega) hK
theorem law_runs : wpS (wpF P 200 13) 200 lawS (.none :: .cup :: (F51.N.drop 2).map fun _ => .none) lawKs = true := by
  show wpS (wpF P 200 13) 200 lawS [.none, .cup, .none, .none, .none, .none, .none, .none] lawKs = true
  have hl := fun g => last_wp (last_ok g)
  unfold lawS at hl ⊢
  dsimp only [body2] at hl
  refine wp_seq (wp_for [.int ((5 : Nat) : Int)] _ (fun ρ => ∃ g : Slot, ρ = [.none, .cup, g, .none, .none, .none, .none, .none]) ?_ (sq_rng1 (n := 5) (by omega)) ⟨_, rfl⟩ ?_ ?_)
  · intro K' h
    simpa [wpEs, wpE] using h
  · rintro x hx ρ ⟨g, rfl⟩
    refine ⟨_, rfl, fun nx' hn => ?_⟩
    have hq : nx' [.none, .cup, .val x, .none, .none, .none, .none, .none] = true := hn _ ⟨_, rfl⟩
    dsimp only [List.set]
    refine wp_seq ?_
    rw [wpS]
    simp only [wpE, wpArgs]
    simp [lend, lentNo]
    refine all_turns ?_
    simp [giveBack, lend, lentNo]
    refine s_law_both ?_
    simp [giveBack, lend, lentNo]
    refine s_law_euclid ?_
    simp [giveBack, lend, lentNo]
    refine s_law_doubling ?_
    simp [giveBack, lend, lentNo, wpS, hq]
  · rintro ρ ⟨g, rfl⟩
    dsimp only
    exact hl g
end
end LK88
abbrev LK88.lawK : Nat := 13
open PySem PySem.W PyProof.Rows
set_option maxHeartbeats 0 in
theorem PySem.Challenge.cw_gamesweighed_k88_whole_games_as_arrows_holds : PySem.Challenge.rw_gamesweighed_k88_whole_games_as_arrows.Holds := by
  w_on; o_law; k_head; (case hw => w_witness2)
  k_fill
  refine L2.walk_of (l := PySem.Challenge.rw_gamesweighed_k88_whole_games_as_arrows) (n := 63) (k := LK88.lawK + 2) (x := "script") (CX := fun _ => L2.CX0) (sp := fun w => G.spLaw _) rfl (by decide) rfl ⟨rfl, by decide, by decide⟩ (fun w h Y => PySem.W.kIn_of Y) ?F (fun _ _ a ns hl _ hS => ⟨a, ns, rfl, hS, hl, fun _ => rfl⟩) (fun _ _ _ _ _ h => h)
  case F =>
    intro w mg fa h KX GG hmg
    refine' LK88.all_mk KX GG hmg ?a0 ?a1 ?a2 ?a3 ?a4 ?a5 ?a6 ?a7 ?a8 ?a9 ?a10 ?a11 ?a12 ?a13 ?a14 ?a15 ?a16 ?a17 ?a18 ?a19 ?a20 ?a21 ?a22 ?a23 ?a24 ?a25 ?a26 ?a27 ?a28 ?a29 ?a30 ?a31 ?a32 ?a33 ?a34 ?a35 ?a36 ?a37 ?a38 ?a39 ?a40 ?a41 ?a42 ?a43 ?a44 ?a45 ?a46 ?a47 ?a48 ?a49 ?a50 ?a51 ?a52 ?a53 ?d0 ?d1 ?d2 ?d3 ?d4 ?d5 ?d6 ?d7 ?d8 ?d9 ?d10 ?d11 ?d12 ?d13 ?d14 ?d15 ?d16 ?d17 ?d18 ?d19 ?d20 ?d21 ?d22 ?d23 ?d24 ?d25 ?d26 ?d27 ?d28 ?d29 ?d30 ?d31 ?d32 ?d33 ?d34 ?d35 ?d36 ?d37 ?d38 ?d39 ?d40 ?d41 ?d42 ?d43 ?d44 ?d45 ?d46 ?d47 ?d48 ?d49 ?d50 ?d51 ?v0 ?v1 ?v2 ?v3 ?v4 ?v5 ?v6 ?z0 ?z1 ?z2 ?z3 ?z4 ?z5 ?z6 ?z7 ?z8 ?z9 ?z10 ?z11 ?z12 ?z13 ?z14 ?z15 ?z16 ?z17 ?z18 LK88.law_runs
    (case a0 => k_is)
    (case a1 => k_is)
    (case a2 => k_is)
    (case a3 => k_is)
    (case a4 => k_is)
    (case a5 => k_is)
    (case a6 => k_is)
    (case a7 => k_is)
    (case a8 => k_is)
    (case a9 => k_is)
    (case a10 => k_is)
    (case a11 => k_is)
    (case a12 => k_is)
    (case a13 => k_is)
    (case a14 => k_is)
    (case a15 => k_is)
    (case a16 => k_is)
    (case a17 => k_is)
    (case a18 => k_is)
    (case a19 => k_is)
    (case a20 => k_is)
    (case a21 => k_is)
    (case a22 => k_is)
    (case a23 => k_is)
    (case a24 => k_is)
    (case a25 => k_is)
    (case a26 => k_is)
    (case a27 => k_is)
    (case a28 => k_is)
    (case a29 => k_is)
    (case a30 => k_is)
    (case a31 => k_is)
    (case a32 => k_is)
    (case a33 => k_is)
    (case a34 => k_is)
    (case a35 => k_is)
    (case a36 => k_is)
    (case a37 => k_is)
    (case a38 => k_is)
    (case a39 => k_is)
    (case a40 => k_is)
    (case a41 => k_is)
    (case a42 => k_is)
    (case a43 => k_is)
    (case a44 => k_is)
    (case a45 => k_is)
    (case a46 => k_is)
    (case a47 => k_is)
    (case a48 => k_is)
    (case a49 => k_is)
    (case a50 => k_is)
    (case a51 => k_is)
    (case a52 => k_is)
    (case a53 => k_is)
    (case d0 => refine' G.df_mk ?l ?c ?k; (case l => k_is); (case c => k_is); (case k => k_is))
    (case d1 => refine' G.df_mk ?l ?c ?k; (case l => k_is); (case c => k_is); (case k => k_is))
    (case d2 => refine' G.df_mk ?l ?c ?k; (case l => k_is); (case c => k_is); (case k => k_is))
    (case d3 => refine' G.df_mk ?l ?c ?k; (case l => k_is); (case c => k_is); (case k => k_is))
    (case d4 => refine' G.df_mk ?l ?c ?k; (case l => k_is); (case c => k_is); (case k => k_is))
    (case d5 => refine' G.df_mk ?l ?c ?k; (case l => k_is); (case c => k_is); (case k => k_is))
    (case d6 => refine' G.df_mk ?l ?c ?k; (case l => k_is); (case c => k_is); (case k => k_is))
    (case d7 => refine' G.df_mk ?l ?c ?k; (case l => k_is); (case c => k_is); (case k => k_is))
    (case d8 => refine' G.df_mk ?l ?c ?k; (case l => k_is); (case c => k_is); (case k => k_is))
    (case d9 => refine' G.df_mk ?l ?c ?k; (case l => k_is); (case c => k_is); (case k => k_is))
    (case d10 => refine' G.df_mk ?l ?c ?k; (case l => k_is); (case c => k_is); (case k => k_is))
    (case d11 => refine' G.df_mk ?l ?c ?k; (case l => k_is); (case c => k_is); (case k => k_is))
    (case d12 => refine' G.df_mk ?l ?c ?k; (case l => k_is); (case c => k_is); (case k => k_is))
    (case d13 => refine' G.df_mk ?l ?c ?k; (case l => k_is); (case c => k_is); (case k => k_is))
    (case d14 => refine' G.df_mk ?l ?c ?k; (case l => k_is); (case c => k_is); (case k => k_is))
    (case d15 => refine' G.df_mk ?l ?c ?k; (case l => k_is); (case c => k_is); (case k => k_is))
    (case d16 => refine' G.df_mk ?l ?c ?k; (case l => k_is); (case c => k_is); (case k => k_is))
    (case d17 => refine' G.df_mk ?l ?c ?k; (case l => k_is); (case c => k_is); (case k => k_is))
    (case d18 => refine' G.df_mk ?l ?c ?k; (case l => k_is); (case c => k_is); (case k => k_is))
    (case d19 => refine' G.df_mk ?l ?c ?k; (case l => k_is); (case c => k_is); (case k => k_is))
    (case d20 => refine' G.df_mk ?l ?c ?k; (case l => k_is); (case c => k_is); (case k => k_is))
    (case d21 => refine' G.df_mk ?l ?c ?k; (case l => k_is); (case c => k_is); (case k => k_is))
    (case d22 => refine' G.df_mk ?l ?c ?k; (case l => k_is); (case c => k_is); (case k => k_is))
    (case d23 => refine' G.df_mk ?l ?c ?k; (case l => k_is); (case c => k_is); (case k => k_is))
    (case d24 => refine' G.df_mk ?l ?c ?k; (case l => k_is); (case c => k_is); (case k => k_is))
    (case d25 => refine' G.df_mk ?l ?c ?k; (case l => k_is); (case c => k_is); (case k => k_is))
    (case d26 => refine' G.df_mk ?l ?c ?k; (case l => k_is); (case c => k_is); (case k => k_is))
    (case d27 => refine' G.df_mk ?l ?c ?k; (case l => k_is); (case c => k_is); (case k => k_is))
    (case d28 => refine' G.df_mk ?l ?c ?k; (case l => k_is); (case c => k_is); (case k => k_is))
    (case d29 => refine' G.df_mk ?l ?c ?k; (case l => k_is); (case c => k_is); (case k => k_is))
    (case d30 => refine' G.df_mk ?l ?c ?k; (case l => k_is); (case c => k_is); (case k => k_is))
    (case d31 => refine' G.df_mk ?l ?c ?k; (case l => k_is); (case c => k_is); (case k => k_is))
    (case d32 => refine' G.df_mk ?l ?c ?k; (case l => k_is); (case c => k_is); (case k => k_is))
    (case d33 => refine' G.df_mk ?l ?c ?k; (case l => k_is); (case c => k_is); (case k => k_is))
    (case d34 => refine' G.df_mk ?l ?c ?k; (case l => k_is); (case c => k_is); (case k => k_is))
    (case d35 => refine' G.df_mk ?l ?c ?k; (case l => k_is); (case c => k_is); (case k => k_is))
    (case d36 => refine' G.df_mk ?l ?c ?k; (case l => k_is); (case c => k_is); (case k => k_is))
    (case d37 => refine' G.df_mk ?l ?c ?k; (case l => k_is); (case c => k_is); (case k => k_is))
    (case d38 => refine' G.df_mk ?l ?c ?k; (case l => k_is); (case c => k_is); (case k => k_is))
    (case d39 => refine' G.df_mk ?l ?c ?k; (case l => k_is); (case c => k_is); (case k => k_is))
    (case d40 => refine' G.df_mk ?l ?c ?k; (case l => k_is); (case c => k_is); (case k => k_is))
    (case d41 => refine' G.df_mk ?l ?c ?k; (case l => k_is); (case c => k_is); (case k => k_is))
    (case d42 => refine' G.df_mk ?l ?c ?k; (case l => k_is); (case c => k_is); (case k => k_is))
    (case d43 => refine' G.df_mk ?l ?c ?k; (case l => k_is); (case c => k_is); (case k => k_is))
    (case d44 => refine' G.df_mk ?l ?c ?k; (case l => k_is); (case c => k_is); (case k => k_is))
    (case d45 => refine' G.df_mk ?l ?c ?k; (case l => k_is); (case c => k_is); (case k => k_is))
    (case d46 => refine' G.df_mk ?l ?c ?k; (case l => k_is); (case c => k_is); (case k => k_is))
    (case d47 => refine' G.df_mk ?l ?c ?k; (case l => k_is); (case c => k_is); (case k => k_is))
    (case d48 => refine' G.df_mk ?l ?c ?k; (case l => k_is); (case c => k_is); (case k => k_is))
    (case d49 => refine' G.df_mk ?l ?c ?k; (case l => k_is); (case c => k_is); (case k => k_is))
    (case d50 => refine' G.df_mk ?l ?c ?k; (case l => k_is); (case c => k_is); (case k => k_is))
    (case d51 => refine' G.df_mk ?l ?c ?k; (case l => k_is); (case c => k_is); (case k => k_is))
    (case v0 => k_is)
    (case v1 => k_is)
    (case v2 => k_is)
    (case v3 => k_is)
    (case v4 => k_is)
    (case v5 => k_is)
    (case v6 => k_is)
    (case z0 => k_is)
    (case z1 => k_is)
    (case z2 => k_is)
    (case z3 => k_is)
    (case z4 => k_is)
    (case z5 => k_is)
    (case z6 => k_is)
    (case z7 => k_is)
    (case z8 => k_is)
    (case z9 => k_is)
    (case z10 => k_is)
    (case z11 => k_is)
    (case z12 => k_is)
    (case z13 => k_is)
    (case z14 => k_is)
    (case z15 => k_is)
    (case z16 => k_is)
    (case z17 => k_is)
    (case z18 => k_is)
