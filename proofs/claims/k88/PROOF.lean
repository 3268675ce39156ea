import PyProof.Rows.All
import Wide.All
import OpenK.AllK
import Wide.FinOn
import KE.DataEq
import KE.DataIsa
import KE.SortData
import PyProof.ReprReads
import HandS.Comp
import HandS.Exc
import HandS.HeadHook1
import KE.DataFind
import PyProof.ReprRoads
import HandS.List
import HandS.Dict
import HandS.Text
import HandS.IsInst
import HandS.WideBits
import HandS.Wide
import HandS.Words
import KE.KEqDict
import HandS.Style
import HandS.TupLen
import HandS.RaiseMore
import HandS.Conv
import HandS.More
import HandS.Small
import OpenK.KMore
import HandS.Iter
import HandS.Zip
import HandS.DictComp
import HandS.Defaults
import HandS.Ends
import HandS.HeadHook2
import HandS.HeadEnd
import HandS.ForMost
import HandS.ForExc
import HandS.Head0
import HandS.Head1
import HandS.Head2
import PySem.Challenge.RW_vendhall_k88_whole_partings_by_turns
set_option Elab.async false
set_option linter.all false
set_option maxRecDepth 100000
set_option maxHeartbeats 0
section
/-! PD0: an evaluator over pure data for a part of Python. -/
namespace PD
open PySem

/-! ### values with a level of ownership, slots, results -/
/-- a value and its level: 0 shared for ever; k + 1: its own object is nobody else's, its items have level k -/
abbrev Vl := Nat × PyData
inductive Slot where
  | dead
  | val (k : Nat) (d : PyData)
  | ro (d : PyData)
abbrev Sts := List Slot
inductive Res (α : Type) where
  | ok (a : α) (ρ : Sts)
  | exc (c : Str) (d : PyData) (ρ : Sts)
abbrev M (α : Type) := Sts → Option (Res α)
variable {α β : Type}
def ret (a : α) : M α := fun ρ => some (.ok a ρ)
def stuck : M α := fun _ => none
def bnd (m : M α) (k : α → M β) : M β := fun ρ => match m ρ with
  | some (.ok a ρ') => k a ρ'
  | some (.exc c d ρ') => some (.exc c d ρ')
  | none => none
def lif (o : Option α) : M α := fun ρ => match o with
  | some a => some (.ok a ρ)
  | none => none

/-! ### pure data -/
mutual
/-- no list, no dict within -/
def imm : PyData → Bool
  | .none => true
  | .bool _ => true
  | .int _ => true
  | .str _ => true
  | .tuple xs => immAll xs
  | .list _ => false
  | .dict _ => false
def immAll : List PyData → Bool
  | [] => true
  | x :: xs => imm x && immAll xs
end
/-- a key of a dict that is served: a number or a text, a tuple of these -/
def keyLeaf : PyData → Bool
  | .int _ => true
  | .str _ => true
  | _ => false
def keyTup : PyData → Bool
  | .tuple xs => xs.all keyLeaf
  | _ => false
def allLeaf (kvs : List (PyData × PyData)) : Bool := kvs.all fun p => keyLeaf p.1
def allTup (kvs : List (PyData × PyData)) : Bool := kvs.all fun p => keyTup p.1
/-- keys of one kind, and k is of it -/
def keyOk (kvs : List (PyData × PyData)) (k : PyData) : Bool := (keyLeaf k && allLeaf kvs) || (keyTup k && allTup kvs)
def keyEqAll : List PyData → List PyData → Bool
  | [], [] => true
  | .int i :: xs, .int j :: ys => decide (i = j) && keyEqAll xs ys
  | .str i :: xs, .str j :: ys => decide (i = j) && keyEqAll xs ys
  | _, _ => false
def keyEq : PyData → PyData → Bool
  | .int i, .int j => decide (i = j)
  | .str i, .str j => decide (i = j)
  | .tuple xs, .tuple ys => keyEqAll xs ys
  | _, _ => false
def dget : List (PyData × PyData) → PyData → Option PyData
  | [], _ => none
  | (k, v) :: r, j => if keyEq k j = true then some v else dget r j
def dput : List (PyData × PyData) → PyData → PyData → List (PyData × PyData)
  | [], j, x => [(j, x)]
  | (k, v) :: r, j, x => if keyEq k j = true then (k, x) :: r else (k, v) :: dput r j x
def plainKv (kvs : List (PyData × PyData)) : Bool := kvs.all fun p => p.2.plain && decide (p.2.depth ≤ 50)
/-- every entry of the one stands in the other -/
def kvSub (b : List (PyData × PyData)) : List (PyData × PyData) → Bool
  | [] => true
  | (k, v) :: r => (match dget b k with
    | some u => PyData.eqv v u && kvSub b r
    | none => false)
def depthOk (a b : PyData) : Bool := decide (min a.depth b.depth ≤ 50)
def isDictD : PyData → Bool
  | .dict _ => true
  | _ => false
/-- a == b -/
def cmpEq (a b : PyData) : Option Bool :=
  if a.plain && b.plain && depthOk a b then some (PyData.eqv a b) else match a, b with
    | .dict x, .dict y => if plainKv x && plainKv y && allLeaf x && allLeaf y then some (x.length == y.length && kvSub y x) else none
    | _, _ => none
def cmpLt (a b : PyData) : Option Bool := match a, b with
  | .int i, .int j => some (decide (i < j))
  | .str x, .str y => some (decide (x.cps.toList < y.cps.toList))
  | _, _ => none
def cmpIn (x c : PyData) : Option Bool := match c with
  | .list xs => if x.plain && PyData.plainAll xs && decide (min (PyData.depthAll xs) x.depth ≤ 50) then some (xs.any fun y => PyData.eqv y x) else none
  | .tuple xs => if x.plain && PyData.plainAll xs && decide (min (PyData.depthAll xs) x.depth ≤ 50) then some (xs.any fun y => PyData.eqv y x) else none
  | .dict kvs => if keyOk kvs x then some (dget kvs x).isSome else none
  | .str s => (match x with
    | .str t => if t.length = 1 then some (decide (t.cps.getD 0 0 ∈ s.cps.toList)) else none
    | _ => none)
  | _ => none
def cmpIs (x c : PyData) : Option Bool := match c with
  | .none => (match x with
    | .none => some true
    | _ => some false)
  | .bool b => (match x with
    | .bool a => some (a == b)
    | _ => some false)
  | _ => none
def notO (o : Option Bool) : Option Bool := match o with
  | some b => some (!b)
  | none => none
def cmpOp (op : CmpOp) (a b : PyData) : Option Bool := match op with
  | .Eq => cmpEq a b
  | .NotEq => notO (cmpEq a b)
  | .Lt => cmpLt a b
  | .Gt => cmpLt b a
  | .LtE => notO (cmpLt b a)
  | .GtE => notO (cmpLt a b)
  | .In => cmpIn a b
  | .NotIn => notO (cmpIn a b)
  | .Is => cmpIs a b
  | .IsNot => notO (cmpIs a b)
def mulOk (i j : Int) : Bool := decide (i.natAbs.log2 + j.natAbs.log2 < 1000000)
def addOp (a b : PyData) : Option Vl := match a, b with
  | .int i, .int j => some (0, .int (i + j))
  | .str x, .str y => if x.length + y.length ≤ sizeLine then some (0, .str (x ++ y)) else none
  | .list xs, .list ys => if xs.length + ys.length ≤ sizeLine then some (1, .list (xs ++ ys)) else none
  | .tuple xs, .tuple ys => if !xs.isEmpty && decide (xs.length + ys.length ≤ sizeLine) then some (0, .tuple (xs ++ ys)) else none
  | _, _ => none
def numOp (op : Operator) (a b : PyData) : Option Vl := match a, b with
  | .int i, .int j => (match op with
    | .Sub => some (0, .int (i - j))
    | .Mult => if mulOk i j then some (0, .int (i * j)) else none
    | .FloorDiv => if decide (0 < j) && decide (j.natAbs.log2 < 9000) then some (0, .int (i / j)) else none
    | .Mod => if decide (0 < j) then some (0, .int (i % j)) else none
    | .Pow => if decide (0 ≤ j) && decide ((Builtin.Int.intBits i : Int) * j ≤ 2 ^ 27) then some (0, .int (i ^ j.toNat)) else none
    | _ => none)
  | _, _ => none
/-- xs * k -/
def repOp (a b : PyData) : Option Vl := match a, b with
  | .list xs, .int k => if decide (0 ≤ k) && decide (k < 2 ^ 62) && decide (xs.length * k.toNat ≤ sizeLine) then some (1, .list (List.replicate k.toNat xs).flatten) else none
  | _, _ => none

def numAll (op : Operator) (a b : PyData) : Option Vl := match numOp op a b with
  | some v => some v
  | none => if op = .Mult then repOp a b else none

/-! ### built-ins on data -/
def allBools : List PyData → Option (List Bool)
  | [] => some []
  | .bool b :: r => (match allBools r with
    | some bs => some (b :: bs)
    | none => none)
  | _ :: _ => none
def allInts : List PyData → Option (List Int)
  | [] => some []
  | .int b :: r => (match allInts r with
    | some bs => some (b :: bs)
    | none => none)
  | _ :: _ => none
def allPairs : List PyData → Option (List (PyData × PyData))
  | [] => some []
  | .tuple [k, v] :: r => (match allPairs r with
    | some bs => some ((k, v) :: bs)
    | none => none)
  | _ :: _ => none
def maxI : Int → List Int → Int
  | m, [] => m
  | m, x :: r => maxI (if m < x then x else m) r
def minI : Int → List Int → Int
  | m, [] => m
  | m, x :: r => minI (if x < m then x else m) r
def sortOk (xs : List PyData) : Bool := decide (xs.length ≤ sizeLine) && (xs.all fun x => xs.all fun y => W.alike x y) && ((xs.all fun x => match x with
    | .tuple (_ :: _) => true
    | _ => false) || xs.all fun x => match x with
    | .tuple _ => false
    | .none => false
    | _ => true) && xs.all fun x => decide (x.depth ≤ 50)
/-- sorting, in steps that the kernel takes -/
def mergeF (le : α → α → Bool) : Nat → List α → List α → List α
  | _, [], ys => ys
  | _, x :: xs, [] => x :: xs
  | 0, x :: xs, _ :: _ => x :: xs
  | n + 1, x :: xs, y :: ys => if le x y = true then x :: mergeF le n xs (y :: ys) else y :: mergeF le n (x :: xs) ys
theorem mergeF_eq (le : α → α → Bool) : ∀ (n : Nat) (xs ys : List α), xs.length + ys.length ≤ n → mergeF le n xs ys = List.merge xs ys le
  | n, [], ys, _ => by unfold mergeF; rw [List.nil_merge]
  | n, x :: xs, [], _ => by unfold mergeF; rw [List.merge_right]
  | 0, x :: xs, y :: ys, h => by simp at h
  | n + 1, x :: xs, y :: ys, h => by
    simp only [List.length_cons] at h
    unfold mergeF
    rw [List.merge, mergeF_eq le n xs (y :: ys) (by simp only [List.length_cons]; omega), mergeF_eq le n (x :: xs) ys (by simp only [List.length_cons]; omega)]
def sortF (le : α → α → Bool) : Nat → List α → List α
  | _, [] => []
  | _, [a] => [a]
  | 0, xs => xs
  | n + 1, a :: b :: xs => mergeF le (xs.length + 2) (sortF le n ((a :: b :: xs).take ((xs.length + 3) / 2))) (sortF le n ((a :: b :: xs).drop ((xs.length + 3) / 2)))
theorem sortF_eq (le : α → α → Bool) : ∀ (n : Nat) (xs : List α), xs.length ≤ n → sortF le n xs = xs.mergeSort le
  | n, [], _ => by unfold sortF; rw [List.mergeSort]
  | n, [a], _ => by unfold sortF; rw [List.mergeSort]
  | 0, a :: b :: xs, h => by simp at h
  | n + 1, a :: b :: xs, h => by
    simp only [List.length_cons] at h
    unfold sortF
    rw [sortF_eq le n _ (by simp only [List.length_take, List.length_cons]; omega), sortF_eq le n _ (by simp only [List.length_drop, List.length_cons]; omega)]
    rw [mergeF_eq _ _ _ _ (by simp only [List.length_mergeSort, List.length_take, List.length_drop, List.length_cons]; omega)]
    conv => rhs; rw [List.mergeSort]
    simp only [List.MergeSort.Internal.splitInTwo, List.splitAt_eq, List.length_cons]
def sortD (xs : List PyData) : List PyData := sortF (W.dataLe false id) xs.length xs
theorem sortD_merge (xs : List PyData) : sortD xs = xs.mergeSort (W.dataLe false id) := sortF_eq _ _ _ (Nat.le_refl _)
def isTy (T : Str) (d : PyData) : Option Bool :=
  if T = "int" then some d.isInt else if T = "bool" then some d.isBool else if T = "str" then some d.isStr
  else if T = "list" then some d.isList else if T = "tuple" then some d.isTuple else if T = "dict" then some d.isDict else none
def isTys : List Str → PyData → Option Bool
  | [], _ => some false
  | T :: r, d => (match isTy T d with
    | some true => some true
    | some false => isTys r d
    | none => none)
def mergeD (kvs more : List (PyData × PyData)) : List (PyData × PyData) := more.foldl (fun acc p => dput acc p.1 p.2) kvs
def bitsOf (i : Int) : Int := Builtin.Int.intBits i
/-- the built-ins that only look -/
def bi1 (f : Str) (x : PyData) : Option Vl :=
  if f = "len" then (match x with
    | .list xs => some (0, .int xs.length)
    | .tuple xs => some (0, .int xs.length)
    | .dict kvs => some (0, .int kvs.length)
    | .str s => if s.length ≤ sizeLine then some (0, .int s.length) else none
    | _ => none)
  else if f = "all" then (match x with
    | .list xs => (match allBools xs with
      | some bs => some (0, .bool (bs.all id))
      | none => none)
    | _ => none)
  else if f = "any" then (match x with
    | .list xs => (match allBools xs with
      | some bs => some (0, .bool (bs.any id))
      | none => none)
    | _ => none)
  else if f = "sum" then (match x with
    | .list xs => (match allInts xs with
      | some ns => some (0, .int ns.sum)
      | none => none)
    | _ => none)
  else if f = "max" then (match x with
    | .list xs => (match allInts xs with
      | some (n :: ns) => some (0, .int (maxI n ns))
      | _ => none)
    | _ => none)
  else if f = "min" then (match x with
    | .list xs => (match allInts xs with
      | some (n :: ns) => some (0, .int (minI n ns))
      | _ => none)
    | _ => none)
  else if f = "int" then (match x with
    | .int i => some (0, .int i)
    | .bool b => some (0, .int (if b then 1 else 0))
    | _ => none)
  else if f = "abs" then (match x with
    | .int i => some (0, .int (if i < 0 then -i else i))
    | _ => none)
  else if f = "repr" then (if x.showable && decide (x.depth ≤ 50) && decide (x.shown.length ≤ sizeLine) then some (0, .str x.shown) else none)
  else none
def bi2 (f : Str) (x y : PyData) : Option Vl :=
  if f = "max" then (match x, y with
    | .int i, .int j => some (0, .int (if j > i then j else i))
    | _, _ => none)
  else if f = "min" then (match x, y with
    | .int i, .int j => some (0, .int (if j < i then j else i))
    | _, _ => none)
  else none
/-- the built-ins that make a new thing of the items -/
def bk1 (f : Str) (x : PyData) : Option Vl :=
  if f = "sorted" then (match x with
    | .list xs => if sortOk xs then some (1, .list (sortD xs)) else none
    | .dict kvs => if sortOk (kvs.map (·.1)) && allLeaf kvs then some (1, .list (sortD (kvs.map (·.1)))) else none
    | _ => none)
  else if f = "list" then (match x with
    | .list xs => some (1, .list xs)
    | .tuple xs => some (1, .list xs)
    | .dict kvs => if allLeaf kvs then some (1, .list (kvs.map (·.1))) else none
    | _ => none)
  else if f = "tuple" then (match x with
    | .list xs => some (0, .tuple xs)
    | .tuple xs => some (0, .tuple xs)
    | _ => none)
  else if f = "dict" then (match x with
    | .list xs => (match allPairs xs with
      | some kvs => if allLeaf kvs then some (1, .dict (mergeD [] kvs)) else none
      | none => none)
    | .dict kvs => if allLeaf kvs then some (1, .dict kvs) else none
    | _ => none)
  else none
def isLook (f : Str) : Bool := f = "len" || f = "all" || f = "any" || f = "sum" || f = "max" || f = "min" || f = "int" || f = "abs" || f = "repr"
def isMake (f : Str) : Bool := f = "sorted" || f = "list" || f = "tuple" || f = "dict"

/-! ### items, slices -/
def atD (xs : List α) (j : Int) : Option α := if 0 ≤ j then xs[j.toNat]? else if -(xs.length : Int) ≤ j then xs[(j + xs.length).toNat]? else none
def ixD (n : Nat) (j : Int) : Option Nat := if 0 ≤ j then (if j < n then some j.toNat else none) else if -(n : Int) ≤ j then some (j + n).toNat else none
def itemOf (c : PyData) (i : PyData) : Option PyData := match c with
  | .list xs => (match i with
    | .int j => atD xs j
    | _ => none)
  | .tuple xs => (match i with
    | .int j => atD xs j
    | _ => none)
  | .str s => (match i with
    | .int j => if s.length ≤ sizeLine then (match atD s.cps.toList j with
      | some c => some (.str ⟨#[c]⟩)
      | none => none) else none
    | _ => none)
  | .dict kvs => if keyOk kvs i then dget kvs i else none
  | _ => none
/-- a slice's end in a row of n: d where it is left out -/
def cutIx (n d : Nat) : Option Int → Nat
  | none => d
  | some i => if i < 0 then (max (i + n) 0).toNat else (min i n).toNat
def cutD (xs : List α) (lo hi : Option Int) : List α := (xs.drop (cutIx xs.length 0 lo)).take (cutIx xs.length xs.length hi - cutIx xs.length 0 lo)
def sliceOf (c : PyData) (lo hi : Option Int) : Option Vl := match c with
  | .list xs => some (1, .list (cutD xs lo hi))
  | _ => none

/-! ### slots -/
def rdS (ρ : Sts) (i : Nat) : Option PyData := match ρ[i]? with
  | some (.val _ d) => some d
  | some (.ro d) => some d
  | _ => none
/-- an operand: a slot's thing, or a thing just made -/
inductive Opd where
  | s (i : Nat)
  | t (k : Nat) (d : PyData)
def rsv (o : Opd) (ρ : Sts) : Option PyData := match o with
  | .s i => rdS ρ i
  | .t _ d => some d
/-- look at an operand -/
def peek (o : Opd) : M PyData := fun ρ => match rsv o ρ with
  | some d => some (.ok d ρ)
  | none => none
/-- look at it, its items being shared from now on -/
def kids (o : Opd) : M PyData := fun ρ => match o with
  | .t _ d => some (.ok d ρ)
  | .s i => (match ρ[i]? with
    | some (.val k d) => some (.ok d (if 2 ≤ k then ρ.set i (.val 1 d) else ρ))
    | some (.ro d) => some (.ok d ρ)
    | _ => none)
/-- the slot's thing is shared from now on -/
def share (i : Nat) : M Vl := fun ρ => match ρ[i]? with
  | some (.val _ d) => some (.ok (0, d) (ρ.set i (.val 0 d)))
  | _ => none
def prots (pr : List Nat) (i : Nat) : Bool := pr.contains i
/-- the slot's thing moves out -/
def moveS (pr : List Nat) (i : Nat) : M Vl := fun ρ => if prots pr i then none else match ρ[i]? with
  | some (.val k d) => some (.ok (k, d) (ρ.set i .dead))
  | _ => none
def store (pr : List Nat) (i : Nat) (v : Vl) : M Unit := fun ρ => if prots pr i then none else match ρ[i]? with
  | none => none
  | some (.ro _) => none
  | some _ => some (.ok () (ρ.set i (.val v.1 v.2)))

/-! ### the program's text, as the evaluator wants it -/
structure Fn where
  name : Str
  ps : List Str
  N : List Str
  body : List Stmt
  sc : Scope
  /-- the parameters that are handed back -/
  io : List Bool
structure Prog where
  fn : Str → Option Fn
  con : Str → Option PyData
  /-- the module has no such name -/
  free : Str → Bool
  /-- a name's last look: its thing moves -/
  mv : Pos → Bool
  /-- a walked name that stays its owner's -/
  ro : Pos → Bool
structure Ctx where
  sc : Scope
  N : List Str
  pr : List Nat
def vis (sc : Scope) (x : Str) : Bool := match sc.names.lookup x with
  | some .local => true
  | some .cell => true
  | some .free => true
  | _ => false
def loc (sc : Scope) (x : Str) : Bool := match sc.names.lookup x with
  | some .local => true
  | some .cell => true
  | _ => false
def glb (sc : Scope) (x : Str) : Bool := match sc.names.lookup x with
  | some .globalImplicit => true
  | _ => false
def okName (x : Str) : Bool := !(x == ("__debug__" : Str)) && !(x == ("__classdict__" : Str)) && !(x == ("__name__" : Str))
def slotOf (cx : Ctx) (x : Str) : Option Nat := if vis cx.sc x && okName x then cx.N.idxOf? x else none
def own (P : Prog) (cx : Ctx) (x : Str) : Option Fn := if glb cx.sc x && okName x then P.fn x else none
def blt (P : Prog) (cx : Ctx) (x f : Str) : Bool := decide (x = f) && glb cx.sc x && P.free x

/-- what a call hands back: the value, the first argument's slot behind it -/
inductive CRes where
  | ok (v : Vl) (back : List Slot)
  | exc (c : Str) (d : PyData)
abbrev Callee := Str → List Slot → Option CRes

/-! ### expressions -/
def noSet : Expr → Bool
  | .Set _ _ _ => false
  | _ => true
def noStar : List Expr → Bool
  | [] => true
  | .Starred _ _ :: _ => false
  | _ :: r => noStar r
/-- a method's receiver, where the call stands -/
def recvOk : Expr → Pos → Pos → Bool
  | .Call (.Name _ _) [] [] _, _, _ => false
  | _, p, q => p.endLine == q.line
def isKind (p : PyData → Bool) (o : Opd) : M Unit := fun ρ => match rsv o ρ with
  | some d => if p d = true then some (.ok () ρ) else none
  | none => none
section
variable (P : Prog) (cl : Callee) (cx : Ctx)
def tmp (m : M Vl) : M Opd := bnd m fun v => ret (.t v.1 v.2)
def slotO (i : Nat) : M Opd := fun ρ => match rdS ρ i with
  | some _ => some (.ok (.s i) ρ)
  | none => none
def opnd (E : Expr → M Vl) (e : Expr) : M Opd := match e with
  | .Name x _ => (match slotOf cx x with
    | some i => slotO i
    | none => tmp (E e))
  | _ => tmp (E e)
def tstK (v : Vl) : M Bool := match v.2 with
  | .bool b => ret b
  | _ => stuck
def tst (m : M Vl) : M Bool := bnd m tstK
def cIf (c : M Bool) (a b : M α) : M α := bnd c fun t => if t = true then a else b
def evAnd (E : Expr → M Vl) : List Expr → M Vl
  | [] => stuck
  | [e] => E e
  | e :: e2 :: r => bnd (tst (E e)) fun b => if b = true then evAnd E (e2 :: r) else ret (0, .bool false)
def evOr (E : Expr → M Vl) : List Expr → M Vl
  | [] => stuck
  | [e] => E e
  | e :: e2 :: r => bnd (tst (E e)) fun b => if b = true then ret (0, .bool true) else evOr E (e2 :: r)
def cNot (m : M Vl) : M Vl := bnd (tst m) fun b => ret (0, .bool (!b))
def cCmp (op : CmpOp) (a b : M Opd) : M Vl := bnd a fun x => bnd b fun y => bnd (peek x) fun dx => bnd (peek y) fun dy => bnd (lif (cmpOp op dx dy)) fun t => ret (0, .bool t)
def cChain (op op' : CmpOp) (a b c : M Opd) : M Vl := bnd a fun x => bnd b fun y => bnd (peek x) fun dx => bnd (peek y) fun dy => bnd (lif (cmpOp op dx dy)) fun t =>
  if t = true then bnd c fun z => bnd (peek y) fun dy' => bnd (peek z) fun dz => bnd (lif (cmpOp op' dy' dz)) fun t' => ret (0, .bool t') else ret (0, .bool false)
def cAdd (a b : M Opd) : M Vl := bnd a fun x => bnd b fun y => bnd (kids x) fun dx => bnd (kids y) fun dy => lif (addOp dx dy)
def cNum (op : Operator) (a b : M Opd) : M Vl := bnd a fun x => bnd b fun y => bnd (kids x) fun dx => bnd (kids y) fun dy => lif (numAll op dx dy)
/-- the items in a row -/
def evs (E : Expr → M Vl) : List Expr → M (List Vl)
  | [] => ret []
  | e :: r => bnd (E e) fun v => bnd (evs E r) fun vs => ret (v :: vs)
/-- the level that a new list of these may have -/
def minLev : List Vl → Option Nat
  | [] => none
  | v :: r => if imm v.2 = true then minLev r else match minLev r with
    | none => some v.1
    | some k => some (min v.1 k)
def lev (vs : List Vl) : Nat := (minLev vs).getD 0
def cList (m : M (List Vl)) : M Vl := bnd m fun vs => if vs.length ≤ sizeLine then ret (lev vs + 1, .list (vs.map (·.2))) else stuck
def cTuple (m : M (List Vl)) : M Vl := bnd m fun vs => if vs.length ≤ sizeLine then ret (lev vs + 1, .tuple (vs.map (·.2))) else stuck
def evPairs (E : Expr → M Vl) : List (Option Expr) → List Expr → M (List (PyData × Vl))
  | [], [] => ret []
  | some k :: ks, v :: vs => bnd (E k) fun dk => bnd (E v) fun dv => bnd (evPairs E ks vs) fun r => ret ((dk.2, dv) :: r)
  | _, _ => stuck
def cDict (m : M (List (PyData × Vl))) : M Vl := bnd m fun ps =>
  if decide (ps.length ≤ 15) && (ps.all fun p => keyLeaf p.1) then ret (lev (ps.map (·.2)) + 1, .dict (mergeD [] (ps.map fun p => (p.1, p.2.2)))) else stuck
/-- an item handed on: of a slot's thing it is shared -/
def itemV (o : Opd) (i : PyData) : M Vl := fun ρ => match o with
  | .t k d => (match itemOf d i with
    | some v => some (.ok (k - 1, v) ρ)
    | none => none)
  | .s j => (match ρ[j]? with
    | some (.val k d) => (match itemOf d i with
      | some v => some (.ok (0, v) (if decide (2 ≤ k) && !imm v then ρ.set j (.val 1 d) else ρ))
      | none => none)
    | some (.ro d) => (match itemOf d i with
      | some v => some (.ok (0, v) ρ)
      | none => none)
    | _ => none)
def cItem (a b : M Opd) : M Vl := bnd a fun x => bnd b fun y => bnd (peek y) fun dy => itemV x dy
def asIntK (v : Vl) : M Int := match v.2 with
  | .int i => ret i
  | _ => stuck
def optI (E : Expr → M Vl) : Option Expr → M (Option Int)
  | none => ret none
  | some e => bnd (E e) fun v => bnd (asIntK v) fun i => ret (some i)
def cSlice (a : M Opd) (lo hi : M (Option Int)) : M Vl := bnd a fun x => bnd lo fun l => bnd hi fun h => bnd (kids x) fun d => lif (sliceOf d l h)
def cLook (f : Str) (a : M Opd) : M Vl := bnd a fun x => bnd (peek x) fun d => lif (bi1 f d)
def cLook2 (f : Str) (a b : M Opd) : M Vl := bnd a fun x => bnd b fun y => bnd (peek x) fun dx => bnd (peek y) fun dy => lif (bi2 f dx dy)
def cMake (f : Str) (a : M Opd) : M Vl := bnd a fun x => bnd (kids x) fun d => lif (bk1 f d)
def cIsi (a : M Opd) (Ts : List Str) : M Vl := bnd a fun x => bnd (peek x) fun d => bnd (lif (isTys Ts d)) fun b => ret (0, .bool b)
def tyNames : List Expr → Option (List Str)
  | [] => some []
  | .Name T _ :: r => if glb cx.sc T && P.free T then (match tyNames r with
    | some l => some (T :: l)
    | none => none) else none
  | _ :: _ => none

/-! methods -/
/-- x.append(v), the list in a slot -/
def setKid (k : Nat) (v : Vl) : Nat := if imm v.2 then k else if v.1 + 1 < k then v.1 + 1 else k
def mAppend (i : Nat) (v : Vl) : M Vl := fun ρ => match ρ[i]? with
  | some (.val (k + 1) (.list xs)) => if xs.length < sizeLine then some (.ok (0, .none) (ρ.set i (.val (setKid (k + 1) v) (.list (xs ++ [v.2]))))) else none
  | _ => none
def mPop (i : Nat) (j : PyData) : M Vl := fun ρ => match ρ[i]?, j with
  | some (.val (k + 1) (.list xs)), .int j => if decide (-(2 ^ 62) ≤ j) && decide (j < 2 ^ 62) then (match ixD xs.length j with
    | some n => (match xs[n]? with
      | some v => some (.ok (k, v) (ρ.set i (.val (k + 1) (.list (xs.eraseIdx n)))))
      | none => none)
    | none => none) else none
  | _, _ => none
/-- x[j] = v, x in a slot -/
def mSet (i : Nat) (j : PyData) (v : Vl) : M Unit := fun ρ => match ρ[i]? with
  | some (.val (k + 1) (.list xs)) => (match j with
    | .int j => (match ixD xs.length j with
      | some n => some (.ok () (ρ.set i (.val (setKid (k + 1) v) (.list (xs.set n v.2)))))
      | none => none)
    | _ => none)
  | some (.val (k + 1) (.dict kvs)) => if keyOk kvs j && decide (kvs.length < sizeLine) then some (.ok () (ρ.set i (.val (setKid (k + 1) v) (.dict (dput kvs j v.2))))) else none
  | _ => none
def getD1 (d k : PyData) : Option PyData := match d with
  | .dict kvs => if keyOk kvs k then some ((dget kvs k).getD .none) else none
  | _ => none
def getD2 (d k x : PyData) : Option PyData := match d with
  | .dict kvs => if keyOk kvs k then some ((dget kvs k).getD x) else none
  | _ => none
def countD (d x : PyData) : Option Vl := match d with
  | .list xs => if x.plain && PyData.plainAll xs && decide (min (PyData.depthAll xs) x.depth ≤ 50) then some (0, .int (xs.countP fun y => PyData.eqv y x : Nat)) else none
  | _ => none
def bitLen (d : PyData) : Option Vl := match d with
  | .int i => some (0, .int (bitsOf i))
  | _ => none
def cMeth1 (f : PyData → Option Vl) (a : M Opd) : M Vl := bnd a fun x => bnd (peek x) fun d => lif (f d)
def cMeth2 (f : PyData → PyData → Option Vl) (a b : M Opd) : M Vl := bnd a fun x => bnd (isKind PyData.isList x) fun _ => bnd b fun y => bnd (peek x) fun d => bnd (peek y) fun e => lif (f d e)
def vl0 (o : Option PyData) : Option Vl := match o with
  | some d => some (0, d)
  | none => none
/-- d.get(k), d.get(k, x): what comes out is shared -/
def cGet1 (a b : M Opd) : M Vl := bnd a fun x => bnd (isKind PyData.isDict x) fun _ => bnd b fun y => bnd (kids x) fun d => bnd (peek y) fun k => lif (vl0 (getD1 d k))
def cGet2 (a b : M Opd) (c : M Vl) : M Vl := bnd a fun x => bnd (isKind PyData.isDict x) fun _ => bnd b fun y => bnd c fun z => bnd (kids x) fun d => bnd (peek y) fun k => lif (vl0 (getD2 d k z.2))

/-! walked things -/
def rangeD (lo hi : Int) : List PyData := (List.range (hi - lo).toNat).map fun (n : Nat) => .int (lo + (n : Int))
def rangeB (i : Int) : Bool := decide (-(2 ^ 62) ≤ i) && decide (i < 2 ^ 62)
def itemsD (d : PyData) : Option (List PyData) := match d with
  | .list xs => some xs
  | .tuple xs => some xs
  | .str s => some (s.cps.toList.map fun c => .str ⟨#[c]⟩)
  | .dict kvs => if allLeaf kvs then some (kvs.map (·.1)) else none
  | _ => none
def zipD (a b : PyData) : Option (List PyData) := match a, b with
  | .list xs, .list ys => some (List.zipWith (fun x y => .tuple [x, y]) xs ys)
  | .tuple xs, .tuple ys => some (List.zipWith (fun x y => .tuple [x, y]) xs ys)
  | _, _ => none
def enumD (n : Nat) : List PyData → List PyData
  | [] => []
  | x :: r => .tuple [.int n, x] :: enumD (n + 1) r
def asInt (m : M Vl) : M Int := bnd m asIntK
/-- what is walked: its items; the slots that are walked and stay their owners' -/
structure Walk where
  xs : List PyData
  ro : List Nat
  lk : Bool
/-- the thing is walked: a slot's thing is shared from now on, or stays its owner's (b) -/
def froz (b : Bool) (o : Opd) : M (PyData × List Nat) := fun ρ => match o with
  | .t _ d => some (.ok (d, []) ρ)
  | .s i => (match ρ[i]? with
    | some (.val 0 d) => some (.ok (d, []) ρ)
    | some (.val (_ + 1) d) => if b = true then some (.ok (d, [i]) (ρ.set i (.ro d))) else some (.ok (d, []) (ρ.set i (.val 0 d)))
    | some (.ro d) => some (.ok (d, []) ρ)
    | _ => none)
def walkO (b : Bool) (a : M Opd) : M Walk := bnd a fun x => bnd (froz b x) fun d => bnd (lif (itemsD d.1)) fun xs => ret ⟨xs, d.2, isDictD d.1⟩
def walkR (lo hi : M Int) : M Walk := bnd lo fun i => bnd hi fun j => if rangeB i && rangeB j then ret ⟨rangeD i j, [], false⟩ else stuck
def walkZ (b c : Bool) (a a' : M Opd) : M Walk := bnd a fun x => bnd a' fun y => bnd (froz b x) fun d => bnd (froz c y) fun e => bnd (lif (zipD d.1 e.1)) fun xs => ret ⟨xs, d.2 ++ e.2, false⟩
def walkE (b : Bool) (a : M Opd) : M Walk := bnd a fun x => bnd (froz b x) fun d => match d.1 with
  | .list xs => ret ⟨enumD 0 xs, d.2, false⟩
  | _ => stuck
def roOf (e : Expr) : Bool := match e with
  | .Name _ pos => P.ro pos
  | _ => false
def isTup : Expr → Bool
  | .Tuple _ _ _ => true
  | _ => false
def walk (E : Expr → M Vl) (tg e : Expr) : M Walk := match e with
  | .Call (.Name f _) [a] [] _ => if blt P cx f "range" && noStar [a] then walkR (ret 0) (asInt (E a)) else if blt P cx f "enumerate" && isTup tg && noStar [a] then walkE (roOf P a) (opnd cx E a) else walkO false (opnd cx E e)
  | .Call (.Name f _) [a, b] [] _ => if blt P cx f "range" && noStar [a, b] then walkR (asInt (E a)) (asInt (E b)) else if blt P cx f "zip" && isTup tg && noStar [a, b] then walkZ (roOf P a) (roOf P b) (opnd cx E a) (opnd cx E b) else walkO false (opnd cx E e)
  | _ => walkO (roOf P e) (opnd cx E e)
/-- behind the walk -/
def unroS : Sts → List Nat → Option Sts
  | ρ, [] => some ρ
  | ρ, i :: r => (match ρ[i]? with
    | some (.ro d) => unroS (ρ.set i (.val 1 d)) r
    | _ => none)
def unwalk (w : Walk) : M Unit := fun ρ => match unroS ρ w.ro with
  | some ρ' => some (.ok () ρ')
  | none => none

/-! targets -/
mutual
def asgn (st : Str → Option Nat) (pr : List Nat) : Expr → Vl → M Unit
  | .Name x _, v => (match st x with
    | some i => store pr i v
    | none => stuck)
  | .Tuple ts _ _, v => (match v.2 with
    | .tuple xs => if noStar ts then asgns st pr ts (v.1 - 1) xs else stuck
    | _ => stuck)
  | _, _ => stuck
def asgns (st : Str → Option Nat) (pr : List Nat) : List Expr → Nat → List PyData → M Unit
  | [], _, [] => ret ()
  | t :: ts, k, x :: xs => bnd (asgn st pr t (k, x)) fun _ => asgns st pr ts k xs
  | _, _, _ => stuck
end
/-- the same, in steps that the kernel sees through -/
def asgnsX (st : Str → Option Nat) (pr : List Nat) : List Expr → Nat → List PyData → M Unit
  | [], _, [] => ret ()
  | t :: ts, k, x :: xs => bnd (asgn st pr t (k, x)) fun _ => asgnsX st pr ts k xs
  | _, _, _ => stuck
def asgnX (st : Str → Option Nat) (pr : List Nat) (t : Expr) (v : Vl) : M Unit := match t with
  | .Name x _ => (match st x with
    | some i => store pr i v
    | none => stuck)
  | .Tuple ts _ _ => (match v.2 with
    | .tuple xs => if noStar ts then asgnsX st pr ts (v.1 - 1) xs else stuck
    | _ => stuck)
  | _ => stuck
theorem asgnsX_eq (st : Str → Option Nat) (pr : List Nat) : ∀ (ts : List Expr) (k : Nat) (xs : List PyData), asgnsX st pr ts k xs = asgns st pr ts k xs
  | [], _, [] => by unfold asgnsX asgns; rfl
  | [], _, _ :: _ => by unfold asgnsX asgns; rfl
  | _ :: _, _, [] => by unfold asgnsX asgns; rfl
  | t :: ts, k, x :: xs => by
    unfold asgnsX asgns
    congr 1
    funext _
    exact asgnsX_eq st pr ts k xs
theorem asgnX_eq : asgnX = asgn := by
  funext st pr t v
  cases t with
  | Name x p => unfold asgnX asgn; rfl
  | Tuple ts k p =>
    unfold asgnX asgn
    dsimp only
    cases v.2 with
    | tuple xs => dsimp only; rw [asgnsX_eq]
    | _ => rfl
  | _ => unfold asgnX asgn; rfl
/-- where a name of the def may be stored -/
def stSlot (x : Str) : Option Nat := if loc cx.sc x && okName x then cx.N.idxOf? x else none

/-! comprehensions -/
def ownSlots (N : List Str) : List (Str × NameKind) → List (Str × Nat)
  | [] => []
  | (x, .local) :: r => (match N.idxOf? x with
    | some i => (x, i) :: ownSlots N r
    | none => ownSlots N r)
  | (x, .cell) :: r => (match N.idxOf? x with
    | some i => (x, i) :: ownSlots N r
    | none => ownSlots N r)
  | _ :: r => ownSlots N r
def killS (ρ : Sts) : List Nat → Sts
  | [] => ρ
  | i :: r => (killS ρ r).set i .dead
/-- the slots of the block's own names must hold nothing of one's own -/
def plainS (ρ : Sts) : List Nat → Bool
  | [] => true
  | i :: r => (match ρ[i]? with
    | some .dead => true
    | some (.val 0 _) => true
    | some (.val _ d) => imm d
    | _ => false) && plainS ρ r
def backS (old : Sts) (ρ : Sts) : List Nat → Sts
  | [] => ρ
  | i :: r => (match old[i]? with
    | some s => (backS old ρ r).set i s
    | none => backS old ρ r)
/-- the block's context -/
def inner (scope : Scope) : Ctx := { cx with sc := L2.relS scope cx.sc }
def blkSlot (scope : Scope) (N : List Str) (x : Str) : Option Nat := match scope.names.lookup x with
  | some .local => N.idxOf? x
  | some .cell => N.idxOf? x
  | _ => none
/-- the items in turn; what the body makes is collected -/
def compM (own : List Nat) (body : PyData → M (List β)) : List PyData → M (List β)
  | [] => ret []
  | x :: r => bnd (fun ρ => match body x ρ with
      | some (.ok v ρ') => some (.ok v (killS ρ' own))
      | _ => none) fun v => bnd (compM own body r) fun vs => ret (v ++ vs)
/-- a block around it -/
def inBlock (own : List Nat) (m : M α) : M α := fun ρ => if plainS ρ own then (match m (killS ρ own) with
    | some (.ok a ρ') => some (.ok a (backS ρ ρ' own))
    | _ => none) else none
def cond (E : Expr → M Vl) : List Expr → M Bool
  | [] => ret true
  | [c] => tst (E c)
  | _ => stuck
/-- one for -/
def cLc (w : M Walk) (own : List Nat) (tg : PyData → M Unit) (c : M Bool) (elt : M Vl) : M Vl := bnd w fun W => bnd (inBlock own (compM own (fun x => bnd (tg x) fun _ => bnd c fun b => if b = true then bnd elt fun v => ret [v] else ret []) W.xs)) fun vs =>
  bnd (unwalk W) fun _ => if vs.length ≤ sizeLine then ret (lev vs + 1, .list (vs.map (·.2))) else stuck
/-- two fors -/
def cLc2 (w : M Walk) (own : List Nat) (tg : PyData → M Unit) (w1 : M Walk) (tg1 : PyData → M Unit) (own1 : List Nat) (c1 : M Bool) (elt : M Vl) : M Vl := bnd w fun W => bnd (inBlock own (compM own (fun x => bnd (tg x) fun _ => bnd w1 fun W1 =>
    if W1.ro.isEmpty then compM own1 (fun y => bnd (tg1 y) fun _ => bnd c1 fun b => if b = true then bnd elt fun v => ret [v] else ret []) W1.xs else stuck) W.xs)) fun vs =>
  bnd (unwalk W) fun _ => if vs.length ≤ sizeLine then ret (lev vs + 1, .list (vs.map (·.2))) else stuck
def cDc (w : M Walk) (own : List Nat) (tg : PyData → M Unit) (c : M Bool) (ke ve : M Vl) : M Vl := bnd w fun W => bnd (inBlock own (compM own (fun x => bnd (tg x) fun _ => bnd c fun b => if b = true then bnd ke fun k => bnd ve fun v => ret [(k.2, v)] else ret []) W.xs)) fun ps =>
  bnd (unwalk W) fun _ => if decide (ps.length ≤ sizeLine) && (ps.all fun p => keyLeaf p.1) then ret (lev (ps.map (·.2)) + 1, .dict (mergeD [] (ps.map fun p => (p.1, p.2.2)))) else stuck

/-! calls of the text's own defs -/
inductive Arg where
  | v (x : Vl)
  | lend (i : Nat)
def argsOf (E : Expr → M Vl) : List Bool → List Expr → M (List Arg)
  | _, [] => ret []
  | io, e :: r => bnd (match io, e with
      | true :: _, .Name x _ => (match slotOf cx x with
        | some i => bnd (slotO i) fun _ => ret (Arg.lend i)
        | none => bnd (E e) fun v => ret (Arg.v v))
      | _, _ => bnd (E e) fun v => ret (Arg.v v)) fun a => bnd (argsOf E (io.drop 1) r) fun as => ret (a :: as)
/-- the arguments' slots; what is lent is gone meanwhile -/
def toSlots (ρ : Sts) : List Arg → Option (List Slot × Sts)
  | [] => some ([], ρ)
  | .v x :: r => (match toSlots ρ r with
    | some (l, ρ') => some (.val x.1 x.2 :: l, ρ')
    | none => none)
  | .lend i :: r => (match ρ[i]? with
    | some (.val k d) => (match toSlots (ρ.set i .dead) r with
      | some (l, ρ') => some (.val k d :: l, ρ')
      | none => none)
    | _ => none)
def backAll : Sts → List Arg → List Slot → Sts
  | ρ, .lend i :: r, b :: bs => backAll (ρ.set i b) r bs
  | ρ, .v _ :: r, _ :: bs => backAll ρ r bs
  | ρ, _, _ => ρ
def cCall (f : Str) (as : List Arg) : M Vl := fun ρ => match toSlots ρ as with
  | none => none
  | some (ss, ρ') => (match cl f ss with
    | none => none
    | some (.exc c d) => some (.exc c d ρ')
    | some (.ok v back) => some (.ok v (backAll ρ' as back)))
def kwNames : List Keyword → List Str
  | [] => []
  | ⟨some n, _, _⟩ :: r => n :: kwNames r
  | ⟨none, _, _⟩ :: r => Str.empty :: kwNames r
def kwVals : List Keyword → List Expr
  | [] => []
  | ⟨_, e, _⟩ :: r => e :: kwVals r
/-- the parameters' order -/
def pick (ks : List Str) (vs : List α) (p : Str) : Option α := match ks.idxOf? p with
  | some i => vs[i]?
  | none => none
def picks (ks : List Str) (vs : List α) : List Str → Option (List α)
  | [] => some []
  | p :: r => (match pick ks vs p, picks ks vs r with
    | some v, some l => some (v :: l)
    | _, _ => none)
end


/-! ### the evaluator -/
def constD : Const → Option PyData
  | .none => some .none
  | .bool b => some (.bool b)
  | .int i => some (.int i)
  | .str s => some (.str s)
  | _ => none
def cName (P : Prog) (cx : Ctx) (x : Str) (pos : Pos) : M Vl := match slotOf cx x with
  | some i => if P.mv pos = true then moveS cx.pr i else share i
  | none => if glb cx.sc x && okName x then lif (vl0 (P.con x)) else stuck
def cNeg (m : M Vl) : M Vl := bnd (asInt m) fun i => ret (0, .int (-i))
/-- a name of one of the six types -/
def tyKnown (T : Str) : Bool := T = "int" || T = "bool" || T = "str" || T = "list" || T = "tuple" || T = "dict"
def blt1 (P : Prog) (cx : Ctx) (E : Expr → M Vl) (f : Str) (a : Expr) : M Vl :=
  if glb cx.sc f && P.free f then (if isLook f then cLook f (opnd cx E a) else if isMake f then cMake f (opnd cx E a) else stuck) else stuck
def blt2 (P : Prog) (cx : Ctx) (E : Expr → M Vl) (f : Str) (a b : Expr) : M Vl :=
  if glb cx.sc f && P.free f then (if f = "isinstance" then (match b with
      | .Name T p => (match tyNames P cx [.Name T p] with
        | some _ => if tyKnown T then cIsi (opnd cx E a) [T] else stuck
        | none => stuck)
      | .Tuple es _ _ => (match tyNames P cx es with
        | some Ts => if Ts.all tyKnown && decide (es.length ≤ sizeLine) then cIsi (opnd cx E a) Ts else stuck
        | none => stuck)
      | _ => stuck)
    else if f = "max" || f = "min" then cLook2 f (opnd cx E a) (opnd cx E b) else stuck) else stuck
def meth1 (cx : Ctx) (E : Expr → M Vl) (o : Expr) (m : Str) (a : Expr) : M Vl :=
  if m = "append" then (match o with
    | .Name x _ => (match slotOf cx x with
      | some i => bnd (isKind PyData.isList (.s i)) fun _ => bnd (E a) fun v => mAppend i v
      | none => stuck)
    | _ => stuck)
  else if m = "pop" then (match o with
    | .Name x _ => (match slotOf cx x with
      | some i => bnd (isKind PyData.isList (.s i)) fun _ => bnd (E a) fun v => mPop i v.2
      | none => stuck)
    | _ => stuck)
  else if m = "get" then cGet1 (opnd cx E o) (opnd cx E a)
  else if m = "count" then cMeth2 countD (opnd cx E o) (opnd cx E a)
  else stuck
def meth2 (cx : Ctx) (E : Expr → M Vl) (o : Expr) (m : Str) (a b : Expr) : M Vl :=
  if m = "get" then cGet2 (opnd cx E o) (opnd cx E a) (E b) else stuck
def meth0 (cx : Ctx) (E : Expr → M Vl) (o : Expr) (m : Str) : M Vl :=
  if m = "bit_length" then cMeth1 bitLen (opnd cx E o) else stuck
/-- the keywords are the parameters that lack -/
def kwOk (ps : List Str) (n : Nat) (ks : List Str) : Bool := decide (n ≤ ps.length) && decide ps.Nodup && decide ks.Nodup && ks.all (fun k => (ps.drop n).contains k) && decide (ks.length = (ps.drop n).length)
def ownCall (cl : Callee) (cx : Ctx) (E : Expr → M Vl) (f : Str) (fn : Fn) (args : List Expr) (kws : List Keyword) : M Vl := match kws with
  | [] => if noStar args then bnd (argsOf cx E fn.io args) fun as => cCall cl f as else stuck
  | _ => if noStar args && kws.all (fun k => match k with
      | ⟨some _, _, _⟩ => true
      | _ => false) && kwOk fn.ps args.length (kwNames kws) then bnd (argsOf cx E [] args) fun as => bnd (argsOf cx E [] (kwVals kws)) fun bs => match picks (kwNames kws) bs (fn.ps.drop as.length) with
    | some cs => cCall cl f (as ++ cs)
    | none => stuck
    else stuck
def ev (P : Prog) (cl : Callee) : Nat → Ctx → Expr → M Vl
  | 0, _, _ => stuck
  | n + 1, cx, e => match e with
    | .Constant c _ _ => lif (vl0 (constD c))
    | .Name x pos => cName P cx x pos
    | .BoolOp .And es _ => evAnd (ev P cl n cx) es
    | .BoolOp .Or es _ => evOr (ev P cl n cx) es
    | .UnaryOp .Not a _ => cNot (ev P cl n cx a)
    | .UnaryOp .USub a _ => cNeg (ev P cl n cx a)
    | .Compare a [op] [b] _ => if noSet b then cCmp op (opnd cx (ev P cl n cx) a) (opnd cx (ev P cl n cx) b) else stuck
    | .Compare a [op, op'] [b, c] _ => if noSet c then cChain op op' (opnd cx (ev P cl n cx) a) (opnd cx (ev P cl n cx) b) (opnd cx (ev P cl n cx) c) else stuck
    | .BinOp a op b _ => if op = .Add then cAdd (opnd cx (ev P cl n cx) a) (opnd cx (ev P cl n cx) b) else cNum op (opnd cx (ev P cl n cx) a) (opnd cx (ev P cl n cx) b)
    | .IfExp c a b _ => cIf (tst (ev P cl n cx c)) (ev P cl n cx a) (ev P cl n cx b)
    | .List es _ => if noStar es then cList (evs (ev P cl n cx) es) else stuck
    | .Tuple es _ _ => if noStar es then cTuple (evs (ev P cl n cx) es) else stuck
    | .Dict [] [] _ => ret (1, .dict [])
    | .Dict ks vs _ => if ks.all (·.isSome) && decide (ks.length = vs.length) && decide (ks.length ≤ 15) then cDict (evPairs (ev P cl n cx) ks vs) else stuck
    | .Subscript a (.Slice lo hi none _) _ => cSlice (opnd cx (ev P cl n cx) a) (optI (ev P cl n cx) lo) (optI (ev P cl n cx) hi)
    | .Subscript _ (.Slice _ _ _ _) _ => stuck
    | .Subscript a i _ => cItem (opnd cx (ev P cl n cx) a) (opnd cx (ev P cl n cx) i)
    | .ListComp elt [⟨tg, it, ifs, a0⟩] scope _ => if L2.blkC cx.N cx.sc scope (ownSlots cx.N scope.names) && decide (a0 = 0) && noSet it then
        cLc (walk P cx (ev P cl n cx) tg it) ((ownSlots cx.N scope.names).map (·.2)) (fun x => asgnX (blkSlot scope cx.N) [] tg (0, x))
          (cond (ev P cl n (inner cx scope)) ifs) (ev P cl n (inner cx scope) elt) else stuck
    | .DictComp ke ve [⟨tg, it, ifs, a0⟩] scope _ => if L2.blkC cx.N cx.sc scope (ownSlots cx.N scope.names) && decide (a0 = 0) && noSet it then
        cDc (walk P cx (ev P cl n cx) tg it) ((ownSlots cx.N scope.names).map (·.2)) (fun x => asgnX (blkSlot scope cx.N) [] tg (0, x))
          (cond (ev P cl n (inner cx scope)) ifs) (ev P cl n (inner cx scope) ke) (ev P cl n (inner cx scope) ve) else stuck
    | .Call (.Name f _) args kws _ => (match own P cx f with
      | some fn => ownCall cl cx (ev P cl n cx) f fn args kws
      | none => (match args, kws with
        | [a], [] => if noStar [a] then blt1 P cx (ev P cl n cx) f a else stuck
        | [a, b], [] => if noStar [a, b] then blt2 P cx (ev P cl n cx) f a b else stuck
        | _, _ => stuck))
    | .Call (.Attribute o m ap) args [] cp => if recvOk o ap cp && noStar args then (match args with
      | [] => meth0 cx (ev P cl n cx) o m
      | [a] => meth1 cx (ev P cl n cx) o m a
      | [a, b] => meth2 cx (ev P cl n cx) o m a b
      | _ => stuck) else stuck
    | _ => stuck

/-! ### statements -/
inductive Flw where
  | nx | bk | ct
  | rt (v : Vl)
def blk (S : Stmt → M Flw) : List Stmt → M Flw
  | [] => ret .nx
  | s :: r => bnd (S s) fun f => match f with
    | .nx => blk S r
    | f => ret f
def forM (tg : PyData → M Unit) (body : M Flw) : List PyData → M Flw
  | [] => ret .nx
  | x :: r => bnd (tg x) fun _ => bnd body fun f => match f with
    | .nx => forM tg body r
    | .ct => forM tg body r
    | .bk => ret .nx
    | .rt v => ret (.rt v)
def whileM (c : M Bool) (b : M Flw) : Nat → M Flw
  | 0 => stuck
  | n + 1 => bnd c fun t => if t = true then bnd b fun f => match f with
    | .nx => whileM c b n
    | .ct => whileM c b n
    | .bk => ret .nx
    | .rt v => ret (.rt v)
    else ret .nx
/-- while a dict is walked, no error comes out -/
def noX (lk : Bool) (m : M α) : M α := fun ρ => match m ρ with
  | some (.exc c d ρ') => if lk = true then none else some (.exc c d ρ')
  | r => r
def cFor (w : M Walk) (tg : PyData → M Unit) (body : M Flw) : M Flw := bnd w fun W => bnd (noX W.lk (forM tg body W.xs)) fun f => bnd (unwalk W) fun _ => ret f
def stores (st : Str → Option Nat) (pr : List Nat) : List Expr → List Vl → M Unit
  | [], [] => ret ()
  | t :: ts, v :: vs => bnd (asgn st pr t v) fun _ => stores st pr ts vs
  | _, _ => stuck
def augOp (op : Operator) (a b : PyData) : Option Vl := match a, b with
  | .int i, .int j => if op = .Add then some (0, .int (i + j)) else numOp op a b
  | _, _ => none
def cAug (pr : List Nat) (i : Nat) (op : Operator) (m : M Vl) : M Unit := bnd (peek (.s i)) fun a => bnd m fun b => bnd (lif (augOp op a b.2)) fun v => store pr i v
def isLD : PyData → Bool
  | .list _ => true
  | .dict _ => true
  | _ => false
/-- x[i], a number -/
def itemN (d i : PyData) : Option Int := if isLD d = true then (match itemOf d i with
  | some (.int n) => some n
  | _ => none) else none
def cAugS (i : Nat) (op : Operator) (k : M Opd) (m : M Vl) : M Unit := bnd k fun j => bnd (peek j) fun dj => bnd (peek (.s i)) fun d => bnd (lif (itemN d dj)) fun n => bnd m fun b => bnd (lif (augOp op (.int n) b.2)) fun v => bnd (peek j) fun dj' => mSet i dj' v
/-- how a, b = x, y is stored: from the right, the names told; by a tuple: none -/
def swP (sc : Scope) (ts vs : List Expr) : Option (Option (List Str)) :=
  if !(sc.kind == .function) then none else if !(ts.length == 2 || ts.length == 3) || vs.length != ts.length then some none
  else if (vs.any fun e => match e with
    | .Starred _ _ => true
    | _ => false) then some none
  else (fun names => if List.length names != ts.length || names.eraseDups.length != names.length then some none
    else if vs.all (foldedForSure 8) then some none else if vs.all (constantsAlone 8) then none else some (some names)) (ts.filterMap fun t => match t with
    | .Name id pos => if sc.names.lookup id == some .local && pos.line == (ts.head?.map (·.pos.line)).getD 0 then some id else none
    | _ => none)
def parX (cx : Ctx) (ts es : List Expr) : Option Bool :=
  if swP cx.sc ts es = some none then some false else match ts, es with
    | [.Name x _, .Name y _], [a, b] => (match stSlot cx x, stSlot cx y with
      | some i, some j => if decide (swP cx.sc ts es = some (some [x, y])) && decide (i ≠ j) && noStar es && (cx.sc.names.lookup x == some .local) && (cx.sc.names.lookup y == some .local) then some true else none
      | _, _ => none)
    | [.Name x _, .Name y _, .Name z _], [a, b, c] => (match stSlot cx x, stSlot cx y, stSlot cx z with
      | some i, some j, some l => if decide (swP cx.sc ts es = some (some [x, y, z])) && decide (i ≠ j) && decide (i ≠ l) && decide (j ≠ l) && noStar es && (cx.sc.names.lookup x == some .local) && (cx.sc.names.lookup y == some .local) && (cx.sc.names.lookup z == some .local) then some true else none
      | _, _, _ => none)
    | _, _ => none
/-- where a comprehension is stored as it is made -/
def isComp : Expr → Bool
  | .ListComp _ _ _ _ => true
  | .DictComp _ _ _ _ _ => true
  | .SetComp _ _ _ _ => true
  | _ => false
def swapB (sc : Scope) (x : Str) (p : Pos) (scope : Scope) (q : Pos) : Bool := sc.names.lookup x == some .local && p.line == q.line && !(scope.names.any fun (n, k) => n == x && (k == .local || k == .cell))
def isSl : Expr → Bool
  | .Slice _ _ _ _ => true
  | _ => false
def nxt (m : M Unit) : M Flw := bnd m fun _ => ret .nx
def wTurns : Nat := 1000000
def evS (P : Prog) (cl : Callee) : Nat → Ctx → Stmt → M Flw
  | 0, _, _ => stuck
  | n + 1, cx, s => match s with
    | .Pass _ => ret .nx
    | .Break _ => ret .bk
    | .Continue _ => ret .ct
    | .Return none _ => ret (.rt (0, .none))
    | .Return (some e) _ => bnd (ev P cl n cx e) fun v => ret (.rt v)
    | .Expr (.Constant (.str _) _ _) _ => ret .nx
    | .Expr (.Call f as ks p) _ => bnd (ev P cl n cx (.Call f as ks p)) fun _ => ret .nx
    | .Assign [.Name x p] e _ => if (stSlot cx x).isSome = true then nxt (bnd (ev P cl n cx e) fun v => asgnX (stSlot cx) cx.pr (.Name x p) v) else stuck
    | .Assign [.Tuple ts k p] (.Tuple es k2 p2) _ => (match parX cx ts es with
      | some true => nxt (bnd (evs (ev P cl n cx) es) fun vs => stores (stSlot cx) cx.pr ts vs)
      | some false => nxt (bnd (ev P cl n cx (.Tuple es k2 p2)) fun v => asgnX (stSlot cx) cx.pr (.Tuple ts k p) v)
      | none => stuck)
    | .Assign [.Tuple ts k p] e _ => nxt (bnd (ev P cl n cx e) fun v => asgnX (stSlot cx) cx.pr (.Tuple ts k p) v)
    | .Assign [.Subscript (.Name x _) i _] e _ => (match slotOf cx x with
      | some j => if isSl i = true then stuck else nxt (bnd (ev P cl n cx e) fun v => bnd (slotO j) fun _ => bnd (opnd cx (ev P cl n cx) i) fun o => bnd (peek o) fun di => mSet j di v)
      | none => stuck)
    | .AugAssign (.Name x _) op e _ => (match stSlot cx x with
      | some j => nxt (cAug cx.pr j op (ev P cl n cx e))
      | none => stuck)
    | .AugAssign (.Subscript (.Name x _) i _) op e _ => (match slotOf cx x with
      | some j => if isSl i = true then stuck else nxt (bnd (slotO j) fun _ => cAugS j op (opnd cx (ev P cl n cx) i) (ev P cl n cx e))
      | none => stuck)
    | .If c a b _ => cIf (tst (ev P cl n cx c)) (blk (evS P cl n cx) a) (blk (evS P cl n cx) b)
    | .While c b [] _ => whileM (tst (ev P cl n cx c)) (blk (evS P cl n cx) b) wTurns
    | .For tg it b [] _ => if noSet it then cFor (walk P cx (ev P cl n cx) tg it) (fun x => asgnX (stSlot cx) cx.pr tg (0, x)) (blk (evS P cl n cx) b) else stuck
    | _ => stuck

/-! ### defs -/
def depthN : Nat := 40
def ioIdx : Nat → List Bool → List Nat
  | _, [] => []
  | n, true :: r => n :: ioIdx (n + 1) r
  | n, false :: r => ioIdx (n + 1) r
def cx0 (fn : Fn) : Ctx := ⟨fn.sc, fn.N, ioIdx 0 fn.io⟩
def start0 (fn : Fn) (ss : List Slot) : Sts := ss ++ List.replicate (fn.N.length - ss.length) .dead
/-- the slots that are handed back -/
def backOf : List Bool → Sts → List Slot
  | true :: io, s :: ρ => s :: backOf io ρ
  | false :: io, _ :: ρ => .dead :: backOf io ρ
  | _, _ => []
def outOf (fn : Fn) : Option (Res Flw) → Option CRes
  | none => none
  | some (.exc c d _) => some (.exc c d)
  | some (.ok f ρ) => (match f with
      | .rt v => some (.ok v (backOf fn.io ρ))
      | .nx => some (.ok (0, .none) (backOf fn.io ρ))
      | _ => none)
def enter (P : Prog) (cl : Callee) (fn : Fn) (ss : List Slot) : Option CRes :=
  if ss.length = fn.ps.length then outOf fn (blk (evS P cl depthN (cx0 fn)) fn.body (start0 fn ss)) else none
def callF (P : Prog) : Nat → Callee
  | 0 => fun _ _ => none
  | k + 1 => fun f ss => match P.fn f with
    | none => none
    | some fn => enter P (callF P k) fn ss

end PD
end
section
/-! PD1: how data stand in the heap. -/
namespace PD
open PySem PySem.Spec PyProof.Rows L2

def keyPy : Key → PyData
  | .inl i => .int i
  | .inr s => .str s
def tkeyPy (ks : List Key) : PyData := .tuple (ks.map keyPy)

/-! ### shared for ever -/
mutual
def Fz (F : Hp) : PyData → V → Prop
  | .none, v => v = .non
  | .bool b, v => v = .bl b
  | .int i, v => v = .int i
  | .str s, v => v = .str s
  | .list xs, v => ∃ a vs, v = .ref a ∧ F a = some (.lst vs) ∧ Fzs F xs vs
  | .tuple xs, v => ∃ a vs, v = .ref a ∧ F a = some (.tup vs) ∧ Fzs F xs vs
  | .dict kvs, v => ∃ a, v = .ref a ∧ ((∃ ks, F a = some (.dK ks) ∧ FzK F kvs ks) ∨ (∃ ks, F a = some (.dT ks) ∧ FzT F kvs ks))
def Fzs (F : Hp) : List PyData → List V → Prop
  | [], vs => vs = []
  | x :: xs, vs => ∃ v r, vs = v :: r ∧ Fz F x v ∧ Fzs F xs r
def FzK (F : Hp) : List (PyData × PyData) → List (Key × V) → Prop
  | [], ks => ks = []
  | (k, x) :: r, ks => ∃ q v s, ks = (q, v) :: s ∧ k = keyPy q ∧ Fz F x v ∧ FzK F r s
def FzT (F : Hp) : List (PyData × PyData) → List (List Key × V) → Prop
  | [], ks => ks = []
  | (k, x) :: r, ks => ∃ q v s, ks = (q, v) :: s ∧ k = tkeyPy q ∧ Fz F x v ∧ FzT F r s
end
/-! what may be read: deep -/
mutual
def DR (H : Hp) : PyData → V → Prop
  | .none, v => v = .non
  | .bool b, v => v = .bl b
  | .int i, v => v = .int i
  | .str s, v => v = .str s
  | .list xs, v => ∃ a vs, v = .ref a ∧ Rd H a (.lst vs) ∧ DRs H xs vs
  | .tuple xs, v => ∃ a vs, v = .ref a ∧ H a = some (.tup vs) ∧ DRs H xs vs
  | .dict kvs, v => ∃ a, v = .ref a ∧ ((∃ ks, Rd H a (.dK ks) ∧ DRK H kvs ks) ∨ (∃ ks, Rd H a (.dT ks) ∧ DRT H kvs ks))
def DRs (H : Hp) : List PyData → List V → Prop
  | [], vs => vs = []
  | x :: xs, vs => ∃ v r, vs = v :: r ∧ DR H x v ∧ DRs H xs r
def DRK (H : Hp) : List (PyData × PyData) → List (Key × V) → Prop
  | [], ks => ks = []
  | (k, x) :: r, ks => ∃ q v s, ks = (q, v) :: s ∧ k = keyPy q ∧ DR H x v ∧ DRK H r s
def DRT (H : Hp) : List (PyData × PyData) → List (List Key × V) → Prop
  | [], ks => ks = []
  | (k, x) :: r, ks => ∃ q v s, ks = (q, v) :: s ∧ k = tkeyPy q ∧ DR H x v ∧ DRT H r s
end
abbrev Ft := Addr → Nat
def Sub (F F' : Hp) : Prop := ∀ a u, F a = some u → F' a = some u
theorem Sub.refl (F : Hp) : Sub F F := fun _ _ h => h
theorem Sub.trans {F G H : Hp} (a : Sub F G) (b : Sub G H) : Sub F H := fun x u h => b x u (a x u h)
/-- read; a tuple as it is -/
def Rt (H : Hp) (a : Addr) (u : HO) : Prop := match u with
  | .tup vs => H a = some (.tup vs)
  | u => Rd H a u
theorem rt_rd {H : Hp} {a : Addr} {u : HO} (h : Rt H a u) : Rd H a u := by
  cases u <;> first | exact h | exact .inl h
theorem rt_of {H : Hp} {a : Addr} {u : HO} (h : H a = some u) : Rt H a u := by
  cases u <;> first | exact h | exact .inl h
theorem rt_keep {H H' : Hp} {a : Addr} {u : HO} (e : H' a = H a) (h : Rt H a u) : Rt H' a u := by
  cases u <;> first
    | exact e.trans h
    | (rcases h with h | ⟨o, h⟩
       · exact .inl (e.trans h)
       · exact .inr ⟨o, e.trans h⟩)
def FOk (F H : Hp) : Prop := ∀ a u, F a = some u → Rt H a u

mutual
theorem Fz.mono {F F' : Hp} (h : Sub F F') : ∀ (d : PyData) (v : V), Fz F d v → Fz F' d v
  | .none, _, e => e
  | .bool _, _, e => e
  | .int _, _, e => e
  | .str _, _, e => e
  | .list xs, v, ⟨a, vs, e, f, r⟩ => ⟨a, vs, e, h _ _ f, Fzs.mono h xs vs r⟩
  | .tuple xs, v, ⟨a, vs, e, f, r⟩ => ⟨a, vs, e, h _ _ f, Fzs.mono h xs vs r⟩
  | .dict kvs, v, ⟨a, e, .inl ⟨ks, f, r⟩⟩ => ⟨a, e, .inl ⟨ks, h _ _ f, FzK.mono h kvs ks r⟩⟩
  | .dict kvs, v, ⟨a, e, .inr ⟨ks, f, r⟩⟩ => ⟨a, e, .inr ⟨ks, h _ _ f, FzT.mono h kvs ks r⟩⟩
theorem Fzs.mono {F F' : Hp} (h : Sub F F') : ∀ (xs : List PyData) (vs : List V), Fzs F xs vs → Fzs F' xs vs
  | [], _, e => e
  | x :: xs, _, ⟨v, r, e, a, b⟩ => ⟨v, r, e, Fz.mono h x v a, Fzs.mono h xs r b⟩
theorem FzK.mono {F F' : Hp} (h : Sub F F') : ∀ (xs : List (PyData × PyData)) (vs : List (Key × V)), FzK F xs vs → FzK F' xs vs
  | [], _, e => e
  | (k, x) :: xs, _, ⟨q, v, r, e, a, b, c⟩ => ⟨q, v, r, e, a, Fz.mono h x v b, FzK.mono h xs r c⟩
theorem FzT.mono {F F' : Hp} (h : Sub F F') : ∀ (xs : List (PyData × PyData)) (vs : List (List Key × V)), FzT F xs vs → FzT F' xs vs
  | [], _, e => e
  | (k, x) :: xs, _, ⟨q, v, r, e, a, b, c⟩ => ⟨q, v, r, e, a, Fz.mono h x v b, FzT.mono h xs r c⟩
end
mutual
theorem Fz.dr {F H : Hp} (h : FOk F H) : ∀ (d : PyData) (v : V), Fz F d v → DR H d v
  | .none, _, e => e
  | .bool _, _, e => e
  | .int _, _, e => e
  | .str _, _, e => e
  | .list xs, v, ⟨a, vs, e, f, r⟩ => ⟨a, vs, e, h _ _ f, Fzs.dr h xs vs r⟩
  | .tuple xs, v, ⟨a, vs, e, f, r⟩ => ⟨a, vs, e, h _ _ f, Fzs.dr h xs vs r⟩
  | .dict kvs, v, ⟨a, e, .inl ⟨ks, f, r⟩⟩ => ⟨a, e, .inl ⟨ks, h _ _ f, FzK.dr h kvs ks r⟩⟩
  | .dict kvs, v, ⟨a, e, .inr ⟨ks, f, r⟩⟩ => ⟨a, e, .inr ⟨ks, h _ _ f, FzT.dr h kvs ks r⟩⟩
theorem Fzs.dr {F H : Hp} (h : FOk F H) : ∀ (xs : List PyData) (vs : List V), Fzs F xs vs → DRs H xs vs
  | [], _, e => e
  | x :: xs, _, ⟨v, r, e, a, b⟩ => ⟨v, r, e, Fz.dr h x v a, Fzs.dr h xs r b⟩
theorem FzK.dr {F H : Hp} (h : FOk F H) : ∀ (xs : List (PyData × PyData)) (vs : List (Key × V)), FzK F xs vs → DRK H xs vs
  | [], _, e => e
  | (k, x) :: xs, _, ⟨q, v, r, e, a, b, c⟩ => ⟨q, v, r, e, a, Fz.dr h x v b, FzK.dr h xs r c⟩
theorem FzT.dr {F H : Hp} (h : FOk F H) : ∀ (xs : List (PyData × PyData)) (vs : List (List Key × V)), FzT F xs vs → DRT H xs vs
  | [], _, e => e
  | (k, x) :: xs, _, ⟨q, v, r, e, a, b, c⟩ => ⟨q, v, r, e, a, Fz.dr h x v b, FzT.dr h xs r c⟩
end

/-! ### with a level -/
def sg (a : Addr) : Ft := fun b => if b = a then 1 else 0
theorem sg_same {a : Addr} : sg a a = 1 := by simp [sg]
theorem sg_ne {a b : Addr} (h : b ≠ a) : sg a b = 0 := by simp [sg, h]
def Reps (R : PyData → V → Ft → Prop) : List PyData → List V → Ft → Prop
  | [], vs, A => vs = [] ∧ ∀ a, A a = 0
  | x :: xs, vs, A => ∃ v r B C, vs = v :: r ∧ R x v B ∧ Reps R xs r C ∧ ∀ a, A a = B a + C a
def RepsK (R : PyData → V → Ft → Prop) : List (PyData × PyData) → List (Key × V) → Ft → Prop
  | [], vs, A => vs = [] ∧ ∀ a, A a = 0
  | (k, x) :: xs, vs, A => ∃ q v r B C, vs = (q, v) :: r ∧ k = keyPy q ∧ R x v B ∧ RepsK R xs r C ∧ ∀ a, A a = B a + C a
def RepsT (R : PyData → V → Ft → Prop) : List (PyData × PyData) → List (List Key × V) → Ft → Prop
  | [], vs, A => vs = [] ∧ ∀ a, A a = 0
  | (k, x) :: xs, vs, A => ∃ q v r B C, vs = (q, v) :: r ∧ k = tkeyPy q ∧ R x v B ∧ RepsT R xs r C ∧ ∀ a, A a = B a + C a
def isBox : PyData → Bool
  | .list _ => true
  | .tuple _ => true
  | .dict _ => true
  | _ => false
def Rep (F H : Hp) : Nat → PyData → V → Ft → Prop
  | 0, d, v, A => Fz F d v ∧ ∀ a, A a = 0
  | k + 1, .list xs, v, A => ∃ a vs B, v = .ref a ∧ H a = some (.lst vs) ∧ F a = none ∧ Reps (Rep F H k) xs vs B ∧ ∀ b, A b = sg a b + B b
  | k + 1, .tuple xs, v, A => ∃ a vs, v = .ref a ∧ F a = some (.tup vs) ∧ Reps (Rep F H k) xs vs A
  | k + 1, .dict kvs, v, A => ∃ a B, v = .ref a ∧ F a = none ∧ ((∃ ks, H a = some (.dK ks) ∧ RepsK (Rep F H k) kvs ks B) ∨ (∃ ks, H a = some (.dT ks) ∧ RepsT (Rep F H k) kvs ks B)) ∧ ∀ b, A b = sg a b + B b
  | _ + 1, d, v, A => Fz F d v ∧ ∀ a, A a = 0
/-- a walked thing that stays its owner's -/
def RepRo (F H : Hp) : PyData → V → Ft → Prop
  | .list xs, v, A => ∃ a vs, v = .ref a ∧ H a = some (.lst vs) ∧ F a = none ∧ Fzs F xs vs ∧ ∀ b, A b = sg a b
  | .dict kvs, v, A => ∃ a, v = .ref a ∧ F a = none ∧ ((∃ ks, Rd H a (.dK ks) ∧ FzK F kvs ks) ∨ (∃ ks, Rd H a (.dT ks) ∧ FzT F kvs ks)) ∧ ∀ b, A b = sg a b
  | d, v, A => Fz F d v ∧ ∀ a, A a = 0
def RepSl (F H : Hp) : Slot → Option V → Ft → Prop
  | .dead, _, A => ∀ a, A a = 0
  | .val k d, o, A => ∃ v, o = some v ∧ Rep F H k d v A
  | .ro d, o, A => ∃ v, o = some v ∧ RepRo F H d v A
def RepS (F H : Hp) : Sts → L2.St → Ft → Prop
  | [], σ, A => σ = [] ∧ ∀ a, A a = 0
  | s :: ρ, σ, A => ∃ o r B C, σ = o :: r ∧ RepSl F H s o B ∧ RepS F H ρ r C ∧ ∀ a, A a = B a + C a

/-- what keeps a thing of that footprint as it is -/
structure Kp (F H F' H' : Hp) (A : Ft) : Prop where
  sub : Sub F F'
  h : ∀ a, A a ≠ 0 → H' a = H a
  f : ∀ a, A a ≠ 0 → F a = none → F' a = none
theorem Kp.imp {F H F' H' : Hp} {A B : Ft} (k : Kp F H F' H' A) (h : ∀ a, B a ≠ 0 → A a ≠ 0) : Kp F H F' H' B := ⟨k.sub, fun a z => k.h a (h a z), fun a z => k.f a (h a z)⟩

theorem Reps.imp {R R' : PyData → V → Ft → Prop} : ∀ {xs : List PyData} {vs : List V} {A : Ft}, (∀ x v B, x ∈ xs → (∀ a, B a ≤ A a) → R x v B → R' x v B) → Reps R xs vs A → Reps R' xs vs A
  | [], _, _, _, h => h
  | x :: xs, _, A, f, ⟨v, r, B, C, e, h1, h2, h3⟩ =>
    ⟨v, r, B, C, e, f x v B (List.mem_cons_self ..) (fun a => by rw [h3 a]; omega) h1, Reps.imp (fun y w D hy hd => f y w D (List.mem_cons_of_mem _ hy) fun a => by have := hd a; rw [h3 a]; omega) h2, h3⟩
theorem RepsK.imp {R R' : PyData → V → Ft → Prop} : ∀ {xs : List (PyData × PyData)} {vs : List (Key × V)} {A : Ft}, (∀ x v B, (∀ a, B a ≤ A a) → R x v B → R' x v B) → RepsK R xs vs A → RepsK R' xs vs A
  | [], _, _, _, h => h
  | (k, x) :: xs, _, A, f, ⟨q, v, r, B, C, e, ek, h1, h2, h3⟩ =>
    ⟨q, v, r, B, C, e, ek, f x v B (fun a => by rw [h3 a]; omega) h1, RepsK.imp (fun y w D hd => f y w D fun a => by have := hd a; rw [h3 a]; omega) h2, h3⟩
theorem RepsT.imp {R R' : PyData → V → Ft → Prop} : ∀ {xs : List (PyData × PyData)} {vs : List (List Key × V)} {A : Ft}, (∀ x v B, (∀ a, B a ≤ A a) → R x v B → R' x v B) → RepsT R xs vs A → RepsT R' xs vs A
  | [], _, _, _, h => h
  | (k, x) :: xs, _, A, f, ⟨q, v, r, B, C, e, ek, h1, h2, h3⟩ =>
    ⟨q, v, r, B, C, e, ek, f x v B (fun a => by rw [h3 a]; omega) h1, RepsT.imp (fun y w D hd => f y w D fun a => by have := hd a; rw [h3 a]; omega) h2, h3⟩
theorem le_ne {A B : Ft} (h : ∀ a, B a ≤ A a) : ∀ a, B a ≠ 0 → A a ≠ 0 := fun a z => by have := h a; omega

theorem Rep.mono {F H F' H' : Hp} : ∀ (k : Nat) (d : PyData) (v : V) (A : Ft), Kp F H F' H' A → Rep F H k d v A → Rep F' H' k d v A
  | 0, d, v, A, q, h => ⟨Fz.mono q.sub d v h.1, h.2⟩
  | k + 1, .none, v, A, q, h => h
  | k + 1, .bool _, v, A, q, h => h
  | k + 1, .int _, v, A, q, h => h
  | k + 1, .str _, v, A, q, h => h
  | k + 1, .list xs, v, A, q, ⟨a, vs, B, e, e1, e2, r, s⟩ => by
    have na : A a ≠ 0 := by rw [s a, sg_same]; omega
    exact ⟨a, vs, B, e, (q.h a na).trans e1, q.f a na e2, Reps.imp (fun x w C _ hc => Rep.mono k x w C (q.imp fun b z => by have := hc b; rw [s b]; omega)) r, s⟩
  | k + 1, .tuple xs, v, A, q, ⟨a, vs, e, e1, r⟩ => ⟨a, vs, e, q.sub _ _ e1, Reps.imp (fun x w C _ hc => Rep.mono k x w C (q.imp (le_ne hc))) r⟩
  | k + 1, .dict kvs, v, A, q, ⟨a, B, e, e2, r, s⟩ => by
    have na : A a ≠ 0 := by rw [s a, sg_same]; omega
    refine ⟨a, B, e, q.f a na e2, ?_, s⟩
    rcases r with ⟨ks, e1, r⟩ | ⟨ks, e1, r⟩
    · exact .inl ⟨ks, (q.h a na).trans e1, RepsK.imp (fun x w C hc => Rep.mono k x w C (q.imp fun b z => by have := hc b; rw [s b]; omega)) r⟩
    · exact .inr ⟨ks, (q.h a na).trans e1, RepsT.imp (fun x w C hc => Rep.mono k x w C (q.imp fun b z => by have := hc b; rw [s b]; omega)) r⟩
theorem rd_same {H H' : Hp} {a : Addr} {u : HO} (e : H' a = H a) (h : Rd H a u) : Rd H' a u := by
  rcases h with h | ⟨o, h⟩
  · exact .inl (e.trans h)
  · exact .inr ⟨o, e.trans h⟩
theorem RepRo.mono {F H F' H' : Hp} (d : PyData) (v : V) (A : Ft) (q : Kp F H F' H' A) (h : RepRo F H d v A) : RepRo F' H' d v A := by
  cases d with
  | list xs =>
    obtain ⟨a, vs, e, e1, e2, r, s⟩ := h
    have na : A a ≠ 0 := by rw [s a, sg_same]; omega
    exact ⟨a, vs, e, (q.h a na).trans e1, q.f a na e2, Fzs.mono q.sub _ _ r, s⟩
  | dict kvs =>
    obtain ⟨a, e, e2, r, s⟩ := h
    have na : A a ≠ 0 := by rw [s a, sg_same]; omega
    refine ⟨a, e, q.f a na e2, ?_, s⟩
    rcases r with ⟨ks, e1, r⟩ | ⟨ks, e1, r⟩
    · exact .inl ⟨ks, rd_same (q.h a na) e1, FzK.mono q.sub _ _ r⟩
    · exact .inr ⟨ks, rd_same (q.h a na) e1, FzT.mono q.sub _ _ r⟩
  | none => exact h
  | bool _ => exact h
  | int _ => exact h
  | str _ => exact h
  | tuple xs => exact ⟨Fz.mono q.sub _ _ h.1, h.2⟩
theorem RepSl.mono {F H F' H' : Hp} {s : Slot} {o : Option V} {A : Ft} (q : Kp F H F' H' A) (h : RepSl F H s o A) : RepSl F' H' s o A := by
  cases s with
  | dead => exact h
  | val k d => obtain ⟨v, e, r⟩ := h; exact ⟨v, e, Rep.mono _ _ _ _ q r⟩
  | ro d => obtain ⟨v, e, r⟩ := h; exact ⟨v, e, RepRo.mono _ _ _ q r⟩
theorem RepS.mono {F H F' H' : Hp} : ∀ {ρ : Sts} {σ : L2.St} {A : Ft}, Kp F H F' H' A → RepS F H ρ σ A → RepS F' H' ρ σ A
  | [], _, _, _, h => h
  | s :: ρ, _, A, q, ⟨o, r, B, C, e, h1, h2, h3⟩ => ⟨o, r, B, C, e, RepSl.mono (q.imp fun a z => by rw [h3 a]; omega) h1, RepS.mono (q.imp fun a z => by rw [h3 a]; omega) h2, h3⟩

/-! what a footprint says -/
theorem Reps.live {H : Hp} {R : PyData → V → Ft → Prop} (f : ∀ x v B, R x v B → ∀ a, B a ≠ 0 → H a ≠ none) : ∀ {xs : List PyData} {vs : List V} {A : Ft}, Reps R xs vs A → ∀ a, A a ≠ 0 → H a ≠ none
  | [], _, _, h, a, z => absurd (h.2 a) z
  | x :: xs, _, A, ⟨v, r, B, C, e, h1, h2, h3⟩, a, z => by
    by_cases hb : B a = 0
    · exact Reps.live f h2 a (by rw [h3 a] at z; omega)
    · exact f x v B h1 a hb
theorem RepsK.live {H : Hp} {R : PyData → V → Ft → Prop} (f : ∀ x v B, R x v B → ∀ a, B a ≠ 0 → H a ≠ none) : ∀ {xs : List (PyData × PyData)} {vs : List (Key × V)} {A : Ft}, RepsK R xs vs A → ∀ a, A a ≠ 0 → H a ≠ none
  | [], _, _, h, a, z => absurd (h.2 a) z
  | (k, x) :: xs, _, A, ⟨q, v, r, B, C, e, ek, h1, h2, h3⟩, a, z => by
    by_cases hb : B a = 0
    · exact RepsK.live f h2 a (by rw [h3 a] at z; omega)
    · exact f x v B h1 a hb
theorem RepsT.live {H : Hp} {R : PyData → V → Ft → Prop} (f : ∀ x v B, R x v B → ∀ a, B a ≠ 0 → H a ≠ none) : ∀ {xs : List (PyData × PyData)} {vs : List (List Key × V)} {A : Ft}, RepsT R xs vs A → ∀ a, A a ≠ 0 → H a ≠ none
  | [], _, _, h, a, z => absurd (h.2 a) z
  | (k, x) :: xs, _, A, ⟨q, v, r, B, C, e, ek, h1, h2, h3⟩, a, z => by
    by_cases hb : B a = 0
    · exact RepsT.live f h2 a (by rw [h3 a] at z; omega)
    · exact f x v B h1 a hb
theorem rd_live {H : Hp} {a : Addr} {u : HO} (h : Rd H a u) : H a ≠ none := by
  rcases h with h | ⟨o, h⟩ <;> rw [h] <;> simp
theorem Rep.live {F H : Hp} : ∀ (k : Nat) (d : PyData) (v : V) (A : Ft), Rep F H k d v A → ∀ a, A a ≠ 0 → H a ≠ none
  | 0, d, v, A, h, a, z => absurd (h.2 a) z
  | k + 1, .none, v, A, h, a, z => absurd (h.2 a) z
  | k + 1, .bool _, v, A, h, a, z => absurd (h.2 a) z
  | k + 1, .int _, v, A, h, a, z => absurd (h.2 a) z
  | k + 1, .str _, v, A, h, a, z => absurd (h.2 a) z
  | k + 1, .list xs, v, A, ⟨b, vs, B, e, e1, e2, r, s⟩, a, z => by
    by_cases hb : a = b
    · subst hb; rw [e1]; simp
    · exact Reps.live (Rep.live k) r a (by rw [s a, sg_ne hb] at z; omega)
  | k + 1, .tuple xs, v, A, ⟨b, vs, e, e1, r⟩, a, z => Reps.live (Rep.live k) r a z
  | k + 1, .dict kvs, v, A, ⟨b, B, e, e2, r, s⟩, a, z => by
    by_cases hb : a = b
    · subst hb
      rcases r with ⟨ks, e1, r⟩ | ⟨ks, e1, r⟩ <;> rw [e1] <;> simp
    · have z' : B a ≠ 0 := by rw [s a, sg_ne hb] at z; omega
      rcases r with ⟨ks, e1, r⟩ | ⟨ks, e1, r⟩
      · exact RepsK.live (Rep.live k) r a z'
      · exact RepsT.live (Rep.live k) r a z'
theorem RepRo.live {F H : Hp} {d : PyData} {v : V} {A : Ft} (h : RepRo F H d v A) (a : Addr) (z : A a ≠ 0) : H a ≠ none := by
  cases d with
  | list xs =>
    obtain ⟨b, vs, e, e1, e2, r, s⟩ := h
    by_cases hb : a = b
    · subst hb; exact (rd_live (.inl e1))
    · rw [s a, sg_ne hb] at z; exact absurd rfl z
  | dict kvs =>
    obtain ⟨b, e, e2, r, s⟩ := h
    by_cases hb : a = b
    · subst hb
      rcases r with ⟨ks, e1, r⟩ | ⟨ks, e1, r⟩ <;> exact (rd_live e1)
    · rw [s a, sg_ne hb] at z; exact absurd rfl z
  | none => exact absurd (h.2 a) z
  | bool _ => exact absurd (h.2 a) z
  | int _ => exact absurd (h.2 a) z
  | str _ => exact absurd (h.2 a) z
  | tuple xs => exact absurd (h.2 a) z
theorem RepSl.live {F H : Hp} {s : Slot} {o : Option V} {A : Ft} (h : RepSl F H s o A) (a : Addr) (z : A a ≠ 0) : H a ≠ none := by
  cases s with
  | dead => exact absurd (h a) z
  | val k d => obtain ⟨v, e, r⟩ := h; exact Rep.live _ _ _ _ r a z
  | ro d => obtain ⟨v, e, r⟩ := h; exact RepRo.live r a z
theorem RepS.live {F H : Hp} : ∀ {ρ : Sts} {σ : L2.St} {A : Ft}, RepS F H ρ σ A → ∀ a, A a ≠ 0 → H a ≠ none
  | [], _, _, h, a, z => absurd (h.2 a) z
  | s :: ρ, _, A, ⟨o, r, B, C, e, h1, h2, h3⟩, a, z => by
    by_cases hb : B a = 0
    · exact RepS.live h2 a (by rw [h3 a] at z; omega)
    · exact RepSl.live h1 a hb
end PD
end
section
/-! PD2: slots, steps, readings. -/
namespace PD
open PySem PySem.Spec PyProof.Rows L2

/-! ### dicts by their keys and values -/
theorem repsK_iff {R : PyData → V → Ft → Prop} : ∀ {kvs : List (PyData × PyData)} {ks : List (Key × V)} {A : Ft}, RepsK R kvs ks A ↔ kvs.map (·.1) = ks.map (fun q => keyPy q.1) ∧ Reps R (kvs.map (·.2)) (ks.map (·.2)) A
  | [], ks, A => by
    constructor
    · rintro ⟨rfl, h⟩; exact ⟨rfl, rfl, h⟩
    · rintro ⟨e, e2, h⟩
      have z : ks = [] := by
        cases ks with
        | nil => rfl
        | cons => cases e
      exact ⟨z, h⟩
  | (k, x) :: r, ks, A => by
    constructor
    · rintro ⟨q, v, s, B, C, rfl, rfl, h1, h2, h3⟩
      obtain ⟨e, h2'⟩ := repsK_iff.mp h2
      exact ⟨by simp [e], v, s.map (·.2), B, C, rfl, h1, h2', h3⟩
    · rintro ⟨e, v, s, B, C, e2, h1, h2, h3⟩
      cases ks with
      | nil => cases e
      | cons q s' =>
        obtain ⟨q, v'⟩ := q
        simp only [List.map_cons, List.cons.injEq] at e e2
        obtain ⟨rfl, rfl⟩ := e2
        exact ⟨q, v', s', B, C, rfl, e.1, h1, repsK_iff.mpr ⟨e.2, h2⟩, h3⟩
theorem repsT_iff {R : PyData → V → Ft → Prop} : ∀ {kvs : List (PyData × PyData)} {ks : List (List Key × V)} {A : Ft}, RepsT R kvs ks A ↔ kvs.map (·.1) = ks.map (fun q => tkeyPy q.1) ∧ Reps R (kvs.map (·.2)) (ks.map (·.2)) A
  | [], ks, A => by
    constructor
    · rintro ⟨rfl, h⟩; exact ⟨rfl, rfl, h⟩
    · rintro ⟨e, e2, h⟩
      have z : ks = [] := by
        cases ks with
        | nil => rfl
        | cons => cases e
      exact ⟨z, h⟩
  | (k, x) :: r, ks, A => by
    constructor
    · rintro ⟨q, v, s, B, C, rfl, rfl, h1, h2, h3⟩
      obtain ⟨e, h2'⟩ := repsT_iff.mp h2
      exact ⟨by simp [e], v, s.map (·.2), B, C, rfl, h1, h2', h3⟩
    · rintro ⟨e, v, s, B, C, e2, h1, h2, h3⟩
      cases ks with
      | nil => cases e
      | cons q s' =>
        obtain ⟨q, v'⟩ := q
        simp only [List.map_cons, List.cons.injEq] at e e2
        obtain ⟨rfl, rfl⟩ := e2
        exact ⟨q, v', s', B, C, rfl, e.1, h1, repsT_iff.mpr ⟨e.2, h2⟩, h3⟩
theorem fzK_iff {F : Hp} : ∀ {kvs : List (PyData × PyData)} {ks : List (Key × V)}, FzK F kvs ks ↔ kvs.map (·.1) = ks.map (fun q => keyPy q.1) ∧ Fzs F (kvs.map (·.2)) (ks.map (·.2))
  | [], ks => by
    constructor
    · rintro rfl; exact ⟨rfl, rfl⟩
    · rintro ⟨e, e2⟩
      cases ks with
      | nil => rfl
      | cons => cases e
  | (k, x) :: r, ks => by
    constructor
    · rintro ⟨q, v, s, rfl, rfl, h1, h2⟩
      obtain ⟨e, h2'⟩ := fzK_iff.mp h2
      exact ⟨by simp [e], v, s.map (·.2), rfl, h1, h2'⟩
    · rintro ⟨e, v, s, e2, h1, h2⟩
      cases ks with
      | nil => cases e
      | cons q s' =>
        obtain ⟨q, v'⟩ := q
        simp only [List.map_cons, List.cons.injEq] at e e2
        obtain ⟨rfl, rfl⟩ := e2
        exact ⟨q, v', s', rfl, e.1, h1, fzK_iff.mpr ⟨e.2, h2⟩⟩
theorem fzT_iff {F : Hp} : ∀ {kvs : List (PyData × PyData)} {ks : List (List Key × V)}, FzT F kvs ks ↔ kvs.map (·.1) = ks.map (fun q => tkeyPy q.1) ∧ Fzs F (kvs.map (·.2)) (ks.map (·.2))
  | [], ks => by
    constructor
    · rintro rfl; exact ⟨rfl, rfl⟩
    · rintro ⟨e, e2⟩
      cases ks with
      | nil => rfl
      | cons => cases e
  | (k, x) :: r, ks => by
    constructor
    · rintro ⟨q, v, s, rfl, rfl, h1, h2⟩
      obtain ⟨e, h2'⟩ := fzT_iff.mp h2
      exact ⟨by simp [e], v, s.map (·.2), rfl, h1, h2'⟩
    · rintro ⟨e, v, s, e2, h1, h2⟩
      cases ks with
      | nil => cases e
      | cons q s' =>
        obtain ⟨q, v'⟩ := q
        simp only [List.map_cons, List.cons.injEq] at e e2
        obtain ⟨rfl, rfl⟩ := e2
        exact ⟨q, v', s', rfl, e.1, h1, fzT_iff.mpr ⟨e.2, h2⟩⟩
theorem drK_iff {F : Hp} : ∀ {kvs : List (PyData × PyData)} {ks : List (Key × V)}, DRK F kvs ks ↔ kvs.map (·.1) = ks.map (fun q => keyPy q.1) ∧ DRs F (kvs.map (·.2)) (ks.map (·.2))
  | [], ks => by
    constructor
    · rintro rfl; exact ⟨rfl, rfl⟩
    · rintro ⟨e, e2⟩
      cases ks with
      | nil => rfl
      | cons => cases e
  | (k, x) :: r, ks => by
    constructor
    · rintro ⟨q, v, s, rfl, rfl, h1, h2⟩
      obtain ⟨e, h2'⟩ := drK_iff.mp h2
      exact ⟨by simp [e], v, s.map (·.2), rfl, h1, h2'⟩
    · rintro ⟨e, v, s, e2, h1, h2⟩
      cases ks with
      | nil => cases e
      | cons q s' =>
        obtain ⟨q, v'⟩ := q
        simp only [List.map_cons, List.cons.injEq] at e e2
        obtain ⟨rfl, rfl⟩ := e2
        exact ⟨q, v', s', rfl, e.1, h1, drK_iff.mpr ⟨e.2, h2⟩⟩
theorem drT_iff {F : Hp} : ∀ {kvs : List (PyData × PyData)} {ks : List (List Key × V)}, DRT F kvs ks ↔ kvs.map (·.1) = ks.map (fun q => tkeyPy q.1) ∧ DRs F (kvs.map (·.2)) (ks.map (·.2))
  | [], ks => by
    constructor
    · rintro rfl; exact ⟨rfl, rfl⟩
    · rintro ⟨e, e2⟩
      cases ks with
      | nil => rfl
      | cons => cases e
  | (k, x) :: r, ks => by
    constructor
    · rintro ⟨q, v, s, rfl, rfl, h1, h2⟩
      obtain ⟨e, h2'⟩ := drT_iff.mp h2
      exact ⟨by simp [e], v, s.map (·.2), rfl, h1, h2'⟩
    · rintro ⟨e, v, s, e2, h1, h2⟩
      cases ks with
      | nil => cases e
      | cons q s' =>
        obtain ⟨q, v'⟩ := q
        simp only [List.map_cons, List.cons.injEq] at e e2
        obtain ⟨rfl, rfl⟩ := e2
        exact ⟨q, v', s', rfl, e.1, h1, drT_iff.mpr ⟨e.2, h2⟩⟩
theorem reps0_iff {F H : Hp} : ∀ {xs : List PyData} {vs : List V} {A : Ft}, Reps (Rep F H 0) xs vs A ↔ Fzs F xs vs ∧ ∀ a, A a = 0
  | [], vs, A => Iff.rfl
  | x :: xs, vs, A => by
    constructor
    · rintro ⟨v, r, B, C, rfl, h1, h2, h3⟩
      obtain ⟨h4, h5⟩ := reps0_iff.mp h2
      exact ⟨⟨v, r, rfl, h1.1, h4⟩, fun a => by rw [h3 a, h1.2 a, h5 a]⟩
    · rintro ⟨⟨v, r, rfl, h1, h2⟩, h3⟩
      exact ⟨v, r, fun _ => 0, fun _ => 0, rfl, ⟨h1, fun _ => rfl⟩, reps0_iff.mpr ⟨h2, fun _ => rfl⟩, fun a => by show A a = 0 + 0; rw [h3 a]⟩

/-! ### reading -/
theorem Reps.drs {H : Hp} {R : PyData → V → Ft → Prop} (f : ∀ x v B, R x v B → DR H x v) : ∀ {xs : List PyData} {vs : List V} {A : Ft}, Reps R xs vs A → DRs H xs vs
  | [], _, _, h => h.1
  | x :: xs, _, A, ⟨v, r, B, C, e, h1, h2, h3⟩ => ⟨v, r, e, f _ _ _ h1, Reps.drs f h2⟩
theorem Rep.dr {F H : Hp} (g : FOk F H) : ∀ (k : Nat) (d : PyData) (v : V) (A : Ft), Rep F H k d v A → DR H d v
  | 0, d, v, A, h => Fz.dr g d v h.1
  | k + 1, .none, v, A, h => h.1
  | k + 1, .bool _, v, A, h => h.1
  | k + 1, .int _, v, A, h => h.1
  | k + 1, .str _, v, A, h => h.1
  | k + 1, .list xs, v, A, ⟨b, vs, B, e, e1, e2, r, s⟩ => ⟨b, vs, e, .inl e1, Reps.drs (Rep.dr g k) r⟩
  | k + 1, .tuple xs, v, A, ⟨b, vs, e, e1, r⟩ => ⟨b, vs, e, g _ _ e1, Reps.drs (Rep.dr g k) r⟩
  | k + 1, .dict kvs, v, A, ⟨b, B, e, e2, r, s⟩ => by
    refine ⟨b, e, ?_⟩
    rcases r with ⟨ks, e1, r⟩ | ⟨ks, e1, r⟩
    · obtain ⟨q, r'⟩ := repsK_iff.mp r
      exact .inl ⟨ks, .inl e1, drK_iff.mpr ⟨q, Reps.drs (Rep.dr g k) r'⟩⟩
    · obtain ⟨q, r'⟩ := repsT_iff.mp r
      exact .inr ⟨ks, .inl e1, drT_iff.mpr ⟨q, Reps.drs (Rep.dr g k) r'⟩⟩
theorem RepRo.dr {F H : Hp} (g : FOk F H) {d : PyData} {v : V} {A : Ft} (h : RepRo F H d v A) : DR H d v := by
  cases d with
  | list xs =>
    obtain ⟨b, vs, e, e1, e2, r, s⟩ := h
    exact ⟨b, vs, e, .inl e1, Fzs.dr g _ _ r⟩
  | dict kvs =>
    obtain ⟨b, e, e2, r, s⟩ := h
    refine ⟨b, e, ?_⟩
    rcases r with ⟨ks, e1, r⟩ | ⟨ks, e1, r⟩
    · exact .inl ⟨ks, e1, FzK.dr g _ _ r⟩
    · exact .inr ⟨ks, e1, FzT.dr g _ _ r⟩
  | none => exact Fz.dr g _ _ h.1
  | bool _ => exact Fz.dr g _ _ h.1
  | int _ => exact Fz.dr g _ _ h.1
  | str _ => exact Fz.dr g _ _ h.1
  | tuple xs => exact Fz.dr g _ _ h.1

/-! what is owned is not shared -/
theorem Reps.free {F : Hp} {R : PyData → V → Ft → Prop} (f : ∀ x v B, R x v B → ∀ a, B a ≠ 0 → F a = none) : ∀ {xs : List PyData} {vs : List V} {A : Ft}, Reps R xs vs A → ∀ a, A a ≠ 0 → F a = none
  | [], _, _, h, a, z => absurd (h.2 a) z
  | x :: xs, _, A, ⟨v, r, B, C, e, h1, h2, h3⟩, a, z => by
    by_cases hb : B a = 0
    · exact Reps.free f h2 a (by rw [h3 a] at z; omega)
    · exact f x v B h1 a hb
theorem Rep.free {F H : Hp} : ∀ (k : Nat) (d : PyData) (v : V) (A : Ft), Rep F H k d v A → ∀ a, A a ≠ 0 → F a = none
  | 0, d, v, A, h, a, z => absurd (h.2 a) z
  | k + 1, .none, v, A, h, a, z => absurd (h.2 a) z
  | k + 1, .bool _, v, A, h, a, z => absurd (h.2 a) z
  | k + 1, .int _, v, A, h, a, z => absurd (h.2 a) z
  | k + 1, .str _, v, A, h, a, z => absurd (h.2 a) z
  | k + 1, .list xs, v, A, ⟨b, vs, B, e, e1, e2, r, s⟩, a, z => by
    by_cases hb : a = b
    · subst hb; exact e2
    · exact Reps.free (Rep.free k) r a (by rw [s a, sg_ne hb] at z; omega)
  | k + 1, .tuple xs, v, A, ⟨b, vs, e, e1, r⟩, a, z => Reps.free (Rep.free k) r a z
  | k + 1, .dict kvs, v, A, ⟨b, B, e, e2, r, s⟩, a, z => by
    by_cases hb : a = b
    · subst hb; exact e2
    · have z' : B a ≠ 0 := by rw [s a, sg_ne hb] at z; omega
      rcases r with ⟨ks, e1, r⟩ | ⟨ks, e1, r⟩
      · exact Reps.free (Rep.free k) (repsK_iff.mp r).2 a z'
      · exact Reps.free (Rep.free k) (repsT_iff.mp r).2 a z'
theorem RepRo.free {F H : Hp} {d : PyData} {v : V} {A : Ft} (h : RepRo F H d v A) (a : Addr) (z : A a ≠ 0) : F a = none := by
  cases d with
  | list xs =>
    obtain ⟨b, vs, e, e1, e2, r, s⟩ := h
    by_cases hb : a = b
    · subst hb; exact e2
    · rw [s a, sg_ne hb] at z; exact absurd rfl z
  | dict kvs =>
    obtain ⟨b, e, e2, r, s⟩ := h
    by_cases hb : a = b
    · subst hb; exact e2
    · rw [s a, sg_ne hb] at z; exact absurd rfl z
  | none => exact absurd (h.2 a) z
  | bool _ => exact absurd (h.2 a) z
  | int _ => exact absurd (h.2 a) z
  | str _ => exact absurd (h.2 a) z
  | tuple xs => exact absurd (h.2 a) z
theorem RepSl.free {F H : Hp} {s : Slot} {o : Option V} {A : Ft} (h : RepSl F H s o A) (a : Addr) (z : A a ≠ 0) : F a = none := by
  cases s with
  | dead => exact absurd (h a) z
  | val k d => obtain ⟨v, e, r⟩ := h; exact Rep.free _ _ _ _ r a z
  | ro d => obtain ⟨v, e, r⟩ := h; exact RepRo.free r a z
theorem RepS.free {F H : Hp} : ∀ {ρ : Sts} {σ : L2.St} {A : Ft}, RepS F H ρ σ A → ∀ a, A a ≠ 0 → F a = none
  | [], _, _, h, a, z => absurd (h.2 a) z
  | s :: ρ, _, A, ⟨o, r, B, C, e, h1, h2, h3⟩, a, z => by
    by_cases hb : B a = 0
    · exact RepS.free h2 a (by rw [h3 a] at z; omega)
    · exact RepSl.free h1 a hb

/-! ### one slot -/
theorem RepS.focus {F H : Hp} : ∀ {ρ : Sts} {σ : L2.St} {A : Ft} {i : Nat} {s : Slot}, RepS F H ρ σ A → ρ[i]? = some s → ∃ o B C, σ[i]? = some o ∧ RepSl F H s o B ∧ (∀ a, A a = B a + C a) ∧
    ∀ F' H' s' o' B' A', Kp F H F' H' C → RepSl F' H' s' o' B' → (∀ a, A' a = B' a + C a) → RepS F' H' (ρ.set i s') (σ.set i o') A'
  | [], _, _, _, _, _, e => by simp at e
  | s :: ρ, _, A, 0, s', ⟨o, r, B, C, e, h1, h2, h3⟩, e' => by
    simp only [List.getElem?_cons_zero, Option.some.injEq] at e'
    subst e' e
    exact ⟨o, B, C, rfl, h1, h3, fun F' H' s' o' B' A' k h z => ⟨o', r, B', C, rfl, h, RepS.mono k h2, z⟩⟩
  | s :: ρ, _, A, i + 1, s', ⟨o, r, B, C, e, h1, h2, h3⟩, e' => by
    simp only [List.getElem?_cons_succ] at e'
    subst e
    obtain ⟨o1, B1, C1, e1, g1, g2, g3⟩ := RepS.focus h2 e'
    refine ⟨o1, B1, fun a => B a + C1 a, by simpa using e1, g1, fun a => by rw [h3 a, g2 a]; show B a + (B1 a + C1 a) = B1 a + (B a + C1 a); omega, fun F' H' s' o' B' A' k h z => ?_⟩
    exact ⟨o, r.set i o', B, fun a => B' a + C1 a, rfl, RepSl.mono (k.imp fun a z => by show B a + C1 a ≠ 0; omega) h1, g3 F' H' s' o' B' _ (k.imp fun a z => by show B a + C1 a ≠ 0; omega) h (fun a => rfl), fun a => by rw [z a]; show B' a + (B a + C1 a) = B a + (B' a + C1 a); omega⟩
theorem set_self {α : Type} : ∀ {l : List α} {i : Nat} {x : α}, l[i]? = some x → l.set i x = l
  | [], _, _, h => by simp at h
  | y :: l, 0, x, h => by simp at h; subst h; rfl
  | y :: l, i + 1, x, h => by simp at h; simp [set_self h]
theorem RepS.len {F H : Hp} : ∀ {ρ : Sts} {σ : L2.St} {A : Ft}, RepS F H ρ σ A → ρ.length = σ.length
  | [], _, _, h => by rw [h.1]; rfl
  | s :: ρ, _, A, ⟨o, r, B, C, e, h1, h2, h3⟩ => by subst e; simp [RepS.len h2]

/-! ### steps -/
structure Ok (F H : Hp) (σ : L2.St) (ρ : Sts) (A : Ft) : Prop where
  fok : FOk F H
  rep : RepS F H ρ σ A
  one : ∀ a, A a ≤ 1
structure Go (F H : Hp) (A : Ft) (F' H' : Hp) (A' : Ft) : Prop where
  ex : Sub F F'
  fz : ∀ a o u, H a = some (.frz o u) → H' a = some (.frz o u)
  fr : ∀ a, A a = 0 → H a ≠ none → H' a = H a
  nw : ∀ a, A' a ≠ 0 → A a ≠ 0 ∨ H a = none
  nf : ∀ a, F' a ≠ F a → A a ≠ 0 ∨ H a = none
theorem Go.refl (F H : Hp) (A : Ft) : Go F H A F H A := ⟨Sub.refl F, fun _ _ _ h => h, fun _ _ _ => rfl, fun _ h => .inl h, fun _ h => absurd rfl h⟩
theorem Go.less {F H F' H' : Hp} {A A' B : Ft} (g : Go F H A F' H' A') (h : ∀ a, B a ≠ 0 → A' a ≠ 0) : Go F H A F' H' B := ⟨g.ex, g.fz, g.fr, fun a z => g.nw a (h a z), g.nf⟩
theorem Go.trans {F H F1 H1 F2 H2 : Hp} {A A1 A2 : Ft} (g : Go F H A F1 H1 A1) (g' : Go F1 H1 A1 F2 H2 A2) : Go F H A F2 H2 A2 := by
  have key : ∀ a, A a = 0 → H a ≠ none → A1 a = 0 ∧ H1 a = H a := fun a z n => by
    refine ⟨?_, g.fr a z n⟩
    by_cases h : A1 a = 0
    · exact h
    · rcases g.nw a h with h | h
      · exact absurd z h
      · exact absurd h n
  have back : ∀ a, (A1 a ≠ 0 ∨ H1 a = none) → A a ≠ 0 ∨ H a = none := fun a z => by
    by_cases h : A a = 0
    · by_cases n : H a = none
      · exact .inr n
      · obtain ⟨h1, h2⟩ := key a h n
        rcases z with z | z
        · exact absurd h1 z
        · rw [h2] at z; exact .inr z
    · exact .inl h
  refine ⟨g.ex.trans g'.ex, fun a o u h => g'.fz a o u (g.fz a o u h), fun a z n => ?_, fun a z => back a (g'.nw a z), fun a z => ?_⟩
  · obtain ⟨h1, h2⟩ := key a z n
    rw [g'.fr a h1 (by rw [h2]; exact n), h2]
  · by_cases h : F1 a = F a
    · exact back a (g'.nf a (by rw [h]; exact z))
    · exact g.nf a h
/-- a thing beside stays -/
theorem Go.kp {F H F' H' : Hp} {A A' C : Ft} (g : Go F H A F' H' A') (live : ∀ a, C a ≠ 0 → H a ≠ none) (ap : ∀ a, C a ≠ 0 → A a = 0) : Kp F H F' H' C := by
  refine ⟨g.ex, fun a z => g.fr a (ap a z) (live a z), fun a z f => ?_⟩
  by_cases h : F' a = F a
  · rw [h]; exact f
  · rcases g.nf a h with q | q
    · exact absurd (ap a z) q
    · exact absurd q (live a z)
/-- what is new lies beside what is there -/
theorem Go.apart {F H F' H' : Hp} {A A' C : Ft} (g : Go F H A F' H' A') (live : ∀ a, C a ≠ 0 → H a ≠ none) (ap : ∀ a, C a ≠ 0 → A a = 0) : ∀ a, C a ≠ 0 → A' a = 0 := fun a z => by
  by_cases h : A' a = 0
  · exact h
  · rcases g.nw a h with q | q
    · exact absurd (ap a z) q
    · exact absurd q (live a z)

/-! ### lowering -/
structure Exr (F H F' : Hp) (A A' : Ft) : Prop where
  sub : Sub F F'
  fok : FOk F' H
  le : ∀ a, A' a ≤ A a
  new : ∀ a, F' a ≠ F a → A a ≠ 0 ∧ A' a = 0
theorem Exr.refl {F H : Hp} {A : Ft} (h : FOk F H) : Exr F H F A A := ⟨Sub.refl F, h, fun _ => Nat.le_refl _, fun a z => absurd rfl z⟩
theorem Exr.go {F H F' : Hp} {A A' : Ft} (e : Exr F H F' A A') : Go F H A F' H A' := ⟨e.sub, fun _ _ _ h => h, fun _ _ _ => rfl, fun a z => .inl (by have := e.le a; omega), fun a z => .inl (e.new a z).1⟩
theorem Exr.kp {F H F' : Hp} {A A' C : Ft} (e : Exr F H F' A A') (ap : ∀ a, C a ≠ 0 → A a = 0) : Kp F H F' H C := ⟨e.sub, fun _ _ => rfl, fun a z f => by
  by_cases h : F' a = F a
  · rw [h]; exact f
  · exact absurd (ap a z) (e.new a h).1⟩
def LowerAt (H : Hp) (k j : Nat) : Prop := ∀ (d : PyData) (v : V) (A : Ft) (F : Hp), FOk F H → Rep F H k d v A → (∀ a, A a ≤ 1) → ∃ F' A', Exr F H F' A A' ∧ Rep F' H j d v A'
theorem lowers {H : Hp} {k j : Nat} (ih : LowerAt H k j) : ∀ (xs : List PyData) (vs : List V) (A : Ft) (F : Hp), FOk F H → Reps (Rep F H k) xs vs A → (∀ a, A a ≤ 1) → ∃ F' A', Exr F H F' A A' ∧ Reps (Rep F' H j) xs vs A'
  | [], vs, A, F, fk, h, _ => ⟨F, A, .refl fk, h⟩
  | x :: xs, _, A, F, fk, ⟨v, r, B, C, rfl, h1, h2, h3⟩, le => by
    obtain ⟨F1, B1, e1, r1⟩ := ih x v B F fk h1 fun a => by have := le a; rw [h3 a] at this; omega
    have h2' : Reps (Rep F1 H k) xs r C := Reps.imp (fun y w D _ hd => Rep.mono k y w D (e1.kp fun a z => by have := le a; rw [h3 a] at this; have := hd a; omega)) h2
    obtain ⟨F2, C1, e2, r2⟩ := lowers ih xs r C F1 e1.fok h2' fun a => by have := le a; rw [h3 a] at this; omega
    have r1' : Rep F2 H j x v B1 := Rep.mono j x v B1 (e2.kp fun a z => by have := le a; rw [h3 a] at this; have := e1.le a; omega) r1
    refine ⟨F2, fun a => B1 a + C1 a, ⟨e1.sub.trans e2.sub, e2.fok, fun a => by have := e1.le a; have := e2.le a; rw [h3 a]; omega, fun a z => ?_⟩, v, r, B1, C1, rfl, r1', r2, fun a => rfl⟩
    by_cases h : F1 a = F a
    · obtain ⟨q1, q2⟩ := e2.new a (by rw [h]; exact z)
      have := le a
      have := e1.le a
      rw [h3 a] at *
      exact ⟨by omega, by show B1 a + C1 a = 0; omega⟩
    · obtain ⟨q1, q2⟩ := e1.new a h
      have := le a
      have := e2.le a
      rw [h3 a] at *
      exact ⟨by omega, by show B1 a + C1 a = 0; omega⟩
theorem fok_upd {F H : Hp} {a : Addr} {u : HO} (f : FOk F H) (h : Rt H a u) : FOk (upd F a u) H := fun b w e => by
  by_cases hb : b = a
  · subst hb; rw [upd_same] at e; cases e; exact h
  · rw [upd_ne hb] at e; exact f b w e
theorem sub_upd {F : Hp} {a : Addr} {u : HO} (n : F a = none) : Sub F (upd F a u) := fun b w e => by
  rw [upd_ne (fun z => by rw [z, n] at e; cases e)]; exact e
/-- the root is shared too -/
theorem exr_root {F F1 H : Hp} {a : Addr} {u : HO} {A B B1 : Ft} (hF : F a = none) (s : ∀ b, A b = sg a b + B b) (le : ∀ b, A b ≤ 1) (e : Exr F H F1 B B1) (z : ∀ b, B1 b = 0) (h : Rt H a u) :
    Exr F H (upd F1 a u) A (fun _ => 0) ∧ F1 a = none := by
  have ba : B a = 0 := by have := le a; rw [s a, sg_same] at this; omega
  have fa : F1 a = none := by
    by_cases q : F1 a = F a
    · rw [q]; exact hF
    · exact absurd ba (e.new a q).1
  refine ⟨⟨e.sub.trans (sub_upd fa), fok_upd e.fok h, fun _ => Nat.zero_le _, fun b q => ⟨?_, rfl⟩⟩, fa⟩
  by_cases hb : b = a
  · subst hb; rw [s b, sg_same]; omega
  · rw [upd_ne hb] at q
    have := (e.new b q).1
    rw [s b]; omega
theorem lower {H : Hp} : ∀ (k j : Nat), j ≤ k → LowerAt H k j
  | 0, j, hj => fun d v A F fk h _ => by
    have : j = 0 := by omega
    subst this
    exact ⟨F, A, .refl fk, h⟩
  | k + 1, 0, hj => fun d v A F fk h le => by
    cases d with
    | none => exact ⟨F, A, .refl fk, h⟩
    | bool _ => exact ⟨F, A, .refl fk, h⟩
    | int _ => exact ⟨F, A, .refl fk, h⟩
    | str _ => exact ⟨F, A, .refl fk, h⟩
    | list xs =>
      obtain ⟨a, vs, B, e, e1, e2, r, s⟩ := h
      obtain ⟨F1, B1, x, r1⟩ := lowers (lower k 0 (Nat.zero_le _)) xs vs B F fk r fun b => by have := le b; rw [s b] at this; omega
      obtain ⟨f1, z1⟩ := reps0_iff.mp r1
      obtain ⟨y, fa⟩ := exr_root e2 s le x z1 (rt_of e1)
      exact ⟨_, _, y, ⟨a, vs, e, upd_same, Fzs.mono (sub_upd fa) _ _ f1⟩, fun _ => rfl⟩
    | tuple xs =>
      obtain ⟨a, vs, e, e1, r⟩ := h
      obtain ⟨F1, B1, x, r1⟩ := lowers (lower k 0 (Nat.zero_le _)) xs vs A F fk r le
      obtain ⟨f1, z1⟩ := reps0_iff.mp r1
      exact ⟨F1, B1, x, ⟨a, vs, e, x.sub _ _ e1, f1⟩, z1⟩
    | dict kvs =>
      obtain ⟨a, B, e, e2, r, s⟩ := h
      have le' : ∀ b, B b ≤ 1 := fun b => by have := le b; rw [s b] at this; omega
      rcases r with ⟨ks, e1, r⟩ | ⟨ks, e1, r⟩
      · obtain ⟨q, r'⟩ := repsK_iff.mp r
        obtain ⟨F1, B1, x, r1⟩ := lowers (lower k 0 (Nat.zero_le _)) _ _ B F fk r' le'
        obtain ⟨f1, z1⟩ := reps0_iff.mp r1
        obtain ⟨y, fa⟩ := exr_root e2 s le x z1 (rt_of e1)
        exact ⟨_, _, y, ⟨a, e, .inl ⟨ks, upd_same, fzK_iff.mpr ⟨q, Fzs.mono (sub_upd fa) _ _ f1⟩⟩⟩, fun _ => rfl⟩
      · obtain ⟨q, r'⟩ := repsT_iff.mp r
        obtain ⟨F1, B1, x, r1⟩ := lowers (lower k 0 (Nat.zero_le _)) _ _ B F fk r' le'
        obtain ⟨f1, z1⟩ := reps0_iff.mp r1
        obtain ⟨y, fa⟩ := exr_root e2 s le x z1 (rt_of e1)
        exact ⟨_, _, y, ⟨a, e, .inr ⟨ks, upd_same, fzT_iff.mpr ⟨q, Fzs.mono (sub_upd fa) _ _ f1⟩⟩⟩, fun _ => rfl⟩
  | k + 1, j + 1, hj => fun d v A F fk h le => by
    have hj' : j ≤ k := by omega
    cases d with
    | none => exact ⟨F, A, .refl fk, h⟩
    | bool _ => exact ⟨F, A, .refl fk, h⟩
    | int _ => exact ⟨F, A, .refl fk, h⟩
    | str _ => exact ⟨F, A, .refl fk, h⟩
    | list xs =>
      obtain ⟨a, vs, B, e, e1, e2, r, s⟩ := h
      have ba : B a = 0 := by have := le a; rw [s a, sg_same] at this; omega
      obtain ⟨F1, B1, x, r1⟩ := lowers (lower k j hj') xs vs B F fk r fun b => by have := le b; rw [s b] at this; omega
      have fa : F1 a = none := by
        by_cases q : F1 a = F a
        · rw [q]; exact e2
        · exact absurd ba (x.new a q).1
      refine ⟨F1, fun b => sg a b + B1 b, ⟨x.sub, x.fok, fun b => by have := x.le b; rw [s b]; omega, fun b q => ?_⟩, a, vs, B1, e, e1, fa, r1, fun b => rfl⟩
      obtain ⟨n1, n2⟩ := x.new b q
      have hb : b ≠ a := fun z => n1 (z ▸ ba)
      exact ⟨by rw [s b]; omega, by show sg a b + B1 b = 0; rw [sg_ne hb, n2]⟩
    | tuple xs =>
      obtain ⟨a, vs, e, e1, r⟩ := h
      obtain ⟨F1, B1, x, r1⟩ := lowers (lower k j hj') xs vs A F fk r le
      exact ⟨F1, B1, x, a, vs, e, x.sub _ _ e1, r1⟩
    | dict kvs =>
      obtain ⟨a, B, e, e2, r, s⟩ := h
      have le' : ∀ b, B b ≤ 1 := fun b => by have := le b; rw [s b] at this; omega
      have ba : B a = 0 := by have := le a; rw [s a, sg_same] at this; omega
      have fin : ∀ (F1 : Hp) (B1 : Ft), Exr F H F1 B B1 → F1 a = none ∧ Exr F H F1 A (fun b => sg a b + B1 b) := fun F1 B1 x => by
        refine ⟨?_, x.sub, x.fok, fun b => by have := x.le b; rw [s b]; omega, fun b q => ?_⟩
        · by_cases q : F1 a = F a
          · rw [q]; exact e2
          · exact absurd ba (x.new a q).1
        · obtain ⟨n1, n2⟩ := x.new b q
          have hb : b ≠ a := fun z => n1 (z ▸ ba)
          exact ⟨by rw [s b]; omega, by show sg a b + B1 b = 0; rw [sg_ne hb, n2]⟩
      rcases r with ⟨ks, e1, r⟩ | ⟨ks, e1, r⟩
      · obtain ⟨q, r'⟩ := repsK_iff.mp r
        obtain ⟨F1, B1, x, r1⟩ := lowers (lower k j hj') _ _ B F fk r' le'
        obtain ⟨fa, y⟩ := fin F1 B1 x
        exact ⟨F1, _, y, a, B1, e, fa, .inl ⟨ks, e1, repsK_iff.mpr ⟨q, r1⟩⟩, fun b => rfl⟩
      · obtain ⟨q, r'⟩ := repsT_iff.mp r
        obtain ⟨F1, B1, x, r1⟩ := lowers (lower k j hj') _ _ B F fk r' le'
        obtain ⟨fa, y⟩ := fin F1 B1 x
        exact ⟨F1, _, y, a, B1, e, fa, .inr ⟨ks, e1, repsT_iff.mpr ⟨q, r1⟩⟩, fun b => rfl⟩

/-! ### things without lists and dicts have no owner -/
mutual
theorem Fz.rep_imm {F H : Hp} : ∀ (k : Nat) (d : PyData) (v : V), imm d = true → Fz F d v → Rep F H k d v (fun _ => 0)
  | 0, d, v, _, h => ⟨h, fun _ => rfl⟩
  | k + 1, .none, v, _, h => ⟨h, fun _ => rfl⟩
  | k + 1, .bool _, v, _, h => ⟨h, fun _ => rfl⟩
  | k + 1, .int _, v, _, h => ⟨h, fun _ => rfl⟩
  | k + 1, .str _, v, _, h => ⟨h, fun _ => rfl⟩
  | k + 1, .list xs, v, i, h => by cases i
  | k + 1, .dict xs, v, i, h => by cases i
  | k + 1, .tuple xs, v, i, ⟨a, vs, e, f, r⟩ => ⟨a, vs, e, f, Fzs.rep_imm k xs vs i r⟩
theorem Fzs.rep_imm {F H : Hp} : ∀ (k : Nat) (xs : List PyData) (vs : List V), immAll xs = true → Fzs F xs vs → Reps (Rep F H k) xs vs (fun _ => 0)
  | k, [], vs, _, h => ⟨h, fun _ => rfl⟩
  | k, x :: xs, _, i, ⟨v, r, e, h1, h2⟩ => by
    have i' := Bool.and_eq_true_iff.mp (show (imm x && immAll xs) = true from i)
    exact ⟨v, r, _, _, e, Fz.rep_imm k x v i'.1 h1, Fzs.rep_imm k xs r i'.2 h2, fun _ => rfl⟩
end
mutual
theorem Rep.fz_imm {F H : Hp} : ∀ (k : Nat) (d : PyData) (v : V) (A : Ft), imm d = true → Rep F H k d v A → Fz F d v ∧ ∀ a, A a = 0
  | 0, d, v, A, _, h => h
  | k + 1, .none, v, A, _, h => h
  | k + 1, .bool _, v, A, _, h => h
  | k + 1, .int _, v, A, _, h => h
  | k + 1, .str _, v, A, _, h => h
  | k + 1, .list xs, v, A, i, h => by cases i
  | k + 1, .dict xs, v, A, i, h => by cases i
  | k + 1, .tuple xs, v, A, i, ⟨a, vs, e, f, r⟩ => by
    obtain ⟨q1, q2⟩ := Reps.fz_imm k xs vs A i r
    exact ⟨⟨a, vs, e, f, q1⟩, q2⟩
theorem Reps.fz_imm {F H : Hp} : ∀ (k : Nat) (xs : List PyData) (vs : List V) (A : Ft), immAll xs = true → Reps (Rep F H k) xs vs A → Fzs F xs vs ∧ ∀ a, A a = 0
  | k, [], vs, A, _, h => h
  | k, x :: xs, _, A, i, ⟨v, r, B, C, e, h1, h2, h3⟩ => by
    have i' := Bool.and_eq_true_iff.mp (show (imm x && immAll xs) = true from i)
    obtain ⟨p1, p2⟩ := Rep.fz_imm k x v B i'.1 h1
    obtain ⟨q1, q2⟩ := Reps.fz_imm k xs r C i'.2 h2
    exact ⟨⟨v, r, e, p1, q1⟩, fun a => by rw [h3 a, p2 a, q2 a]⟩
end
end PD
end
section
/-! PD3: the readings of the evaluator's parts. -/
namespace PD
open PySem PySem.Spec PyProof.Rows L2

/-- the world of one program -/
structure Glob where
  P : Program
  w : World
  K : PySem.W.Frag
  mg : Str → Option Value
  base : Heap
  pg : Prog
variable {α β ξ ζ : Type}
abbrev Rr (α ξ : Type) := Hp → Hp → L2.St → Sts → α → ξ → Ft → Prop
/-- an error of the text's own: its class, its field -/
def ExcRep (G : Glob) (F H : Hp) (c : Str) (d : PyData) (cls : Value) (dx : Option Addr) : Prop :=
  cls = .ref (He.ga G.K c) ∧ ∃ a v, dx = some a ∧ H a = some (.xd [("value", v)]) ∧ Fz F d v
def Aft (G : Glob) (W : WX) (R : Rr α ξ) (F H : Hp) (Z : Ft) (σ : L2.St) (r : Option (Res α)) (Q : ξ → Hp → Prop) : Prop := match r with
  | some (.ok a ρ') => ∀ x F' H' A' B, Go F H Z F' H' (fun a => A' a + B a) → Ok F' H' σ ρ' A' → R F' H' σ ρ' a x B → (∀ a, A' a + B a ≤ 1) → Q x H'
  | some (.exc c d ρ') => ∀ cls dx F' H' A', Go F H Z F' H' A' → Ok F' H' σ ρ' A' → ExcRep G F' H' c d cls dx → W cls dx σ H'
  | none => False
def tM (G : Glob) (W : WX) (R : Rr α ξ) (m : M α) : L2.St → Hp → (ξ → Hp → Prop) → Prop := fun σ H Q => ∃ F A ρ, Ok F H σ ρ A ∧ Aft G W R F H A σ (m ρ) Q
abbrev Le (A Z : Ft) : Prop := ∀ a, A a ≠ 0 → Z a ≠ 0
section
variable {G : Glob} {W : WX} {R : Rr α ξ} {R' : Rr β ζ} {F H F1 H1 : Hp} {A Z Z1 : Ft} {σ : L2.St} {ρ : Sts} {Q : ζ → Hp → Prop}
theorem Aft.base {r : Option (Res β)} (h : Aft G W R' F H Z σ r Q) (g : Go F H Z F1 H1 Z1) : Aft G W R' F1 H1 Z1 σ r Q := by
  cases r with
  | none => exact h
  | some r => cases r with
    | ok a ρ' => exact fun x F' H' A' B g' => h x F' H' A' B (g.trans g')
    | exc c d ρ' => exact fun cls dx F' H' A' g' => h cls dx F' H' A' (g.trans g')
theorem Go.big {F H F' H' : Hp} {A A' Z : Ft} (g : Go F H A F' H' A') (le : Le A Z) : Go F H Z F' H' (fun a => A' a + Z a) :=
  ⟨g.ex, g.fz, fun a z n => g.fr a (by have := le a; omega) n, fun a z => by
    by_cases hz : Z a = 0
    · rcases g.nw a (by have : A' a + Z a ≠ 0 := z; omega) with q | q
      · exact absurd hz (le a q)
      · exact .inr q
    · exact .inl hz, fun a z => (g.nf a z).imp (le a) id⟩
theorem Aft.bind {m : M α} {k : α → M β} {Q1 : ξ → Hp → Prop} (h : Aft G W R' F H Z σ (bnd m k ρ) Q) (az : Le A Z)
    (step : ∀ a ρ1, m ρ = some (.ok a ρ1) → ∀ x F1 H1 A1 B1 Z1, Go F H A F1 H1 (fun a => A1 a + B1 a) → Ok F1 H1 σ ρ1 A1 → R F1 H1 σ ρ1 a x B1 → (∀ a, A1 a + B1 a ≤ 1) → Le A1 Z1 → Le B1 Z1 → Le Z Z1 → Aft G W R' F1 H1 Z1 σ (k a ρ1) Q → Q1 x H1) :
    Aft G W R F H A σ (m ρ) Q1 := by
  unfold bnd at h
  cases e : m ρ with
  | none => rw [e] at h; exact h
  | some r => cases r with
    | ok a ρ1 =>
      rw [e] at h
      intro x F1 H1 A1 B1 g ok1 r1 le1
      exact step a ρ1 e x F1 H1 A1 B1 (fun a => A1 a + B1 a + Z a) g ok1 r1 le1 (fun a z => by show A1 a + B1 a + Z a ≠ 0; omega) (fun a z => by show A1 a + B1 a + Z a ≠ 0; omega) (fun a z => by show A1 a + B1 a + Z a ≠ 0; omega) (Aft.base h (g.big az))
    | exc c d ρ1 =>
      rw [e] at h
      intro cls dx F1 H1 A1 g ok1 r1
      exact h cls dx F1 H1 A1 ((g.big az).less fun a z => by show A1 a + Z a ≠ 0; omega) ok1 r1
theorem Aft.lif1 {o : Option β} (h : Aft G W R' F H Z σ (lif o ρ) Q) : ∃ b, o = some b ∧ Aft G W R' F H Z σ (some (.ok b ρ)) Q := by
  cases o with
  | none => exact (h : False).elim
  | some b => exact ⟨b, rfl, h⟩
theorem Aft.lif {o : Option α} {k : α → M β} (h : Aft G W R' F H Z σ (bnd (lif o) k ρ) Q) : ∃ a, o = some a ∧ Aft G W R' F H Z σ (k a ρ) Q := by
  cases o with
  | none => exact (h : False).elim
  | some a => exact ⟨a, rfl, h⟩
theorem Aft.peek {o : Opd} {k : PyData → M β} (h : Aft G W R' F H Z σ (bnd (peek o) k ρ) Q) : ∃ d, rsv o ρ = some d ∧ Aft G W R' F H Z σ (k d ρ) Q := by
  unfold bnd PD.peek at h
  cases e : rsv o ρ with
  | none => rw [e] at h; exact (h : False).elim
  | some d => rw [e] at h; exact ⟨d, rfl, h⟩
end

/-! ### what results stand for -/
def RV : Rr Vl V := fun F H _ _ v x B => Rep F H v.1 v.2 x B
def RB : Rr Bool Bool := fun _ _ _ _ b c B => c = b ∧ ∀ a, B a = 0
def RO : Rr Opd V := fun F H σ _ o x B => match o with
  | .s i => σ[i]? = some (some x) ∧ ∀ a, B a = 0
  | .t k d => Rep F H k d x B
def RepVs (F H : Hp) : List Vl → List V → Ft → Prop
  | [], xs, A => xs = [] ∧ ∀ a, A a = 0
  | v :: vs, xs, A => ∃ x r B C, xs = x :: r ∧ Rep F H v.1 v.2 x B ∧ RepVs F H vs r C ∧ ∀ a, A a = B a + C a
def RVs : Rr (List Vl) (List V) := fun F H _ _ vs xs B => RepVs F H vs xs B
theorem RO.live {F H : Hp} {σ : L2.St} {ρ : Sts} {o : Opd} {x : V} {B : Ft} (h : RO F H σ ρ o x B) (a : Addr) (z : B a ≠ 0) : H a ≠ none := by
  cases o with
  | s i => exact absurd (h.2 a) z
  | t k d => exact Rep.live _ _ _ _ h a z
theorem RO.mono {F H F' H' : Hp} {σ : L2.St} {ρ ρ' : Sts} {o : Opd} {x : V} {B : Ft} (k : Kp F H F' H' B) (h : RO F H σ ρ o x B) : RO F' H' σ ρ' o x B := by
  cases o with
  | s i => exact h
  | t n d => exact Rep.mono _ _ _ _ k h
theorem RepVs.live {F H : Hp} : ∀ {vs : List Vl} {xs : List V} {A : Ft}, RepVs F H vs xs A → ∀ a, A a ≠ 0 → H a ≠ none
  | [], _, _, h, a, z => absurd (h.2 a) z
  | v :: vs, _, A, ⟨x, r, B, C, e, h1, h2, h3⟩, a, z => by
    by_cases hb : B a = 0
    · exact RepVs.live h2 a (by rw [h3 a] at z; omega)
    · exact Rep.live _ _ _ _ h1 a hb
theorem RepVs.mono {F H F' H' : Hp} : ∀ {vs : List Vl} {xs : List V} {A : Ft}, Kp F H F' H' A → RepVs F H vs xs A → RepVs F' H' vs xs A
  | [], _, _, _, h => h
  | v :: vs, _, A, k, ⟨x, r, B, C, e, h1, h2, h3⟩ => ⟨x, r, B, C, e, Rep.mono _ _ _ _ (k.imp fun a z => by rw [h3 a]; omega) h1, RepVs.mono (k.imp fun a z => by rw [h3 a]; omega) h2, h3⟩
theorem RepVs.len {F H : Hp} : ∀ {vs : List Vl} {xs : List V} {A : Ft}, RepVs F H vs xs A → vs.length = xs.length
  | [], _, _, h => by rw [h.1]; rfl
  | v :: vs, _, A, ⟨x, r, B, C, e, h1, h2, h3⟩ => by subst e; simp [RepVs.len h2]
/-- a slot that is read -/
theorem Ok.at {F H : Hp} {σ : L2.St} {ρ : Sts} {A : Ft} (ok : Ok F H σ ρ A) {i : Nat} {d : PyData} (e : rdS ρ i = some d) : ∃ x, σ[i]? = some (some x) ∧ DR H d x := by
  unfold rdS at e
  cases q : ρ[i]? with
  | none => rw [q] at e; cases e
  | some s =>
    obtain ⟨o, B, C, e1, h1, _, _⟩ := RepS.focus ok.rep q
    cases s with
    | dead => rw [q] at e; cases e
    | val k d' =>
      rw [q] at e; cases e
      obtain ⟨x, rfl, r⟩ := h1
      exact ⟨x, e1, Rep.dr ok.fok _ _ _ _ r⟩
    | ro d' =>
      rw [q] at e; cases e
      obtain ⟨x, rfl, r⟩ := h1
      exact ⟨x, e1, RepRo.dr ok.fok r⟩
theorem Ok.opd {F H : Hp} {σ : L2.St} {ρ : Sts} {A B : Ft} (ok : Ok F H σ ρ A) {o : Opd} {x : V} {d : PyData} (h : RO F H σ ρ o x B) (e : rsv o ρ = some d) : DR H d x := by
  cases o with
  | s i =>
    obtain ⟨y, e1, r⟩ := ok.at (show rdS ρ i = some d from e)
    rw [h.1] at e1
    cases e1
    exact r
  | t k d' =>
    have e' : d' = d := Option.some.inj e
    subst e'
    exact Rep.dr ok.fok _ _ _ _ h
/-! ### a new value -/
def Nw (F H : Hp) (v : Vl) (Q : V → Hp → Prop) : Prop := ∀ x F' H' B, Go F H (fun _ => 0) F' H' B → FOk F' H' → Rep F' H' v.1 v.2 x B → (∀ a, B a ≤ 1) → Q x H'
theorem Ok.beside {F H F' H' : Hp} {σ : L2.St} {ρ : Sts} {A B : Ft} (ok : Ok F H σ ρ A) (g : Go F H (fun _ => 0) F' H' B) (fk : FOk F' H') (le : ∀ a, B a ≤ 1) : Ok F' H' σ ρ A ∧ ∀ a, A a + B a ≤ 1 := by
  refine ⟨⟨fk, RepS.mono (g.kp (fun a z => RepS.live ok.rep a z) fun _ _ => rfl) ok.rep, ok.one⟩, fun a => ?_⟩
  have h1 := ok.one a
  by_cases z : A a = 0
  · rw [z]; have := le a; omega
  · have := g.apart (C := A) (fun a z => RepS.live ok.rep a z) (fun _ _ => rfl) a z
    omega
theorem Aft.nw {G : Glob} {W : WX} {F H : Hp} {Z A : Ft} {σ : L2.St} {ρ : Sts} {v : Vl} {Q : V → Hp → Prop} (h : Aft G W RV F H Z σ (some (.ok v ρ)) Q) (ok : Ok F H σ ρ A) (az : Le A Z) : Nw F H v Q := by
  intro x F' H' B g fk r le
  obtain ⟨ok', le'⟩ := ok.beside g fk le
  refine h x F' H' A B ⟨g.ex, g.fz, fun a z n => g.fr a rfl n, fun a z => ?_, fun a z => ?_⟩ ok' r le'
  · have z' : A a + B a ≠ 0 := z
    by_cases q : A a = 0
    · rcases g.nw a (by omega) with y | y
      · exact absurd rfl y
      · exact .inr y
    · exact .inl (az a q)
  · rcases g.nf a z with y | y
    · exact absurd rfl y
    · exact .inr y
/-- nothing new in the heap -/
theorem Nw.imm {F H : Hp} {v : Vl} {Q : V → Hp → Prop} (h : Nw F H v Q) (fk : FOk F H) {x : V} (hx : Fz F v.2 x) (hi : imm v.2 = true) : Q x H :=
  h x F H (fun _ => 0) (Go.refl F H _) fk (Fz.rep_imm _ _ _ hi hx) fun _ => Nat.zero_le _
theorem Nw.fz {F H : Hp} {d : PyData} {Q : V → Hp → Prop} (h : Nw F H (0, d) Q) (fk : FOk F H) {x : V} (hx : Fz F d x) : Q x H :=
  h x F H (fun _ => 0) (Go.refl F H _) fk ⟨hx, fun _ => rfl⟩ fun _ => Nat.zero_le _
/-- a new list of shared things -/
theorem Go.new {F H : Hp} {p : Addr} {o : HO} (hp : H p = none) : Go F H (fun _ => 0) F (upd H p o) (sg p) := ⟨Sub.refl F, fun a o' u h => (upd_ne fun z => by rw [z, hp] at h; cases h).trans h, fun a _ n => upd_ne fun z => n (z ▸ hp), fun a z => .inr (by
  by_cases q : a = p
  · rw [q]; exact hp
  · rw [sg_ne q] at z; exact absurd rfl z), fun a z => absurd rfl z⟩
theorem FOk.free {F H : Hp} (fk : FOk F H) {p : Addr} (hp : H p = none) : F p = none := by
  cases e : F p with
  | none => rfl
  | some u => exact absurd hp (rd_live (rt_rd (fk p u e)))
theorem FOk.new {F H : Hp} (fk : FOk F H) {p : Addr} {o : HO} (hp : H p = none) : FOk F (upd H p o) := fun a u e => by
  have n : a ≠ p := fun z => by rw [z, fk.free hp] at e; cases e
  exact rt_keep (upd_ne n) (fk a u e)
theorem reps0_of {F H : Hp} {xs : List PyData} {vs : List V} (h : Fzs F xs vs) : Reps (Rep F H 0) xs vs (fun _ => 0) := reps0_iff.mpr ⟨h, fun _ => rfl⟩
theorem sg_le (p : Addr) : ∀ a, sg p a ≤ 1 := fun a => by unfold sg; split <;> omega
theorem Nw.list {F H : Hp} {xs : List PyData} {Q : V → Hp → Prop} (h : Nw F H (1, .list xs) Q) (fk : FOk F H) {vs : List V} (hx : Fzs F xs vs) : ∀ p, H p = none → Q (.ref p) (upd H p (.lst vs)) := fun p hp =>
  h _ F _ (sg p) (Go.new hp) (fk.new hp) ⟨p, vs, fun _ => 0, rfl, upd_same, fk.free hp, reps0_of hx, fun _ => rfl⟩ (sg_le p)
theorem Nw.tuple {F H : Hp} {xs : List PyData} {Q : V → Hp → Prop} (h : Nw F H (0, .tuple xs) Q) (fk : FOk F H) {vs : List V} (hx : Fzs F xs vs) : ∀ p, H p = none → Q (.ref p) (upd H p (.tup vs)) := fun p hp => by
  have fp := fk.free hp
  refine h _ (upd F p (.tup vs)) _ (fun _ => 0) ⟨sub_upd fp, fun a o' u h => (upd_ne fun z => by rw [z, hp] at h; cases h).trans h, fun a _ n => upd_ne fun z => n (z ▸ hp), fun a z => absurd rfl z, fun a z => .inr ?_⟩ (fok_upd (fk.new hp) (rt_of upd_same)) ⟨⟨p, vs, rfl, upd_same, Fzs.mono (sub_upd fp) _ _ hx⟩, fun _ => rfl⟩ fun _ => Nat.zero_le _
  by_cases q : a = p
  · rw [q]; exact hp
  · rw [upd_ne q] at z; exact absurd rfl z
theorem Nw.dictK {F H : Hp} {kvs : List (PyData × PyData)} {Q : V → Hp → Prop} (h : Nw F H (1, .dict kvs) Q) (fk : FOk F H) {ks : List (Key × V)} (hx : FzK F kvs ks) : ∀ p, H p = none → Q (.ref p) (upd H p (.dK ks)) := fun p hp =>
  h _ F _ (sg p) (Go.new hp) (fk.new hp) ⟨p, fun _ => 0, rfl, fk.free hp, .inl ⟨ks, upd_same, repsK_iff.mpr ⟨(fzK_iff.mp hx).1, reps0_of (fzK_iff.mp hx).2⟩⟩, fun _ => rfl⟩ (sg_le p)
theorem Nw.dictT {F H : Hp} {kvs : List (PyData × PyData)} {Q : V → Hp → Prop} (h : Nw F H (1, .dict kvs) Q) (fk : FOk F H) {ks : List (List Key × V)} (hx : FzT F kvs ks) : ∀ p, H p = none → Q (.ref p) (upd H p (.dT ks)) := fun p hp =>
  h _ F _ (sg p) (Go.new hp) (fk.new hp) ⟨p, fun _ => 0, rfl, fk.free hp, .inr ⟨ks, upd_same, repsT_iff.mpr ⟨(fzT_iff.mp hx).1, reps0_of (fzT_iff.mp hx).2⟩⟩, fun _ => rfl⟩ (sg_le p)

/-! ### operands in a row -/
section
variable {G : Glob} {W : WX} {R' : Rr β ζ} {σ : L2.St} {H : Hp} {Q : ζ → Hp → Prop}
theorem rd1 {ma : M Opd} {rest : Opd → M β} {r : V → Hp → (ζ → Hp → Prop) → Prop} (h : tM G W R' (bnd ma rest) σ H Q)
    (fin : ∀ x vx F H A Z ρ B, Ok F H σ ρ A → RO F H σ ρ x vx B → (∀ a, A a + B a ≤ 1) → Le A Z → Le B Z → Aft G W R' F H Z σ (rest x ρ) Q → r vx H Q) :
    tM G W RO ma σ H (fun vx H1 => r vx H1 Q) := by
  obtain ⟨F, A, ρ, ok, h⟩ := h
  exact ⟨F, A, ρ, ok, h.bind (fun _ z => z) fun x ρ1 _ vx F1 H1 A1 B1 Z1 g ok1 r1 le1 z1 z2 z3 h1 => fin x vx F1 H1 A1 Z1 ρ1 B1 ok1 r1 le1 z1 z2 h1⟩
theorem rd2 {ma mb : M Opd} {rest : Opd → Opd → M β} {r : V → V → Hp → (ζ → Hp → Prop) → Prop} (h : tM G W R' (bnd ma fun x => bnd mb fun y => rest x y) σ H Q)
    (fin : ∀ x y vx vy F H A Z ρ B C, Ok F H σ ρ A → RO F H σ ρ x vx B → RO F H σ ρ y vy C → (∀ a, A a + B a + C a ≤ 1) → Le A Z → Le B Z → Le C Z → Aft G W R' F H Z σ (rest x y ρ) Q → r vx vy H Q) :
    tM G W RO ma σ H (fun vx H1 => tM G W RO mb σ H1 fun vy H2 => r vx vy H2 Q) := by
  obtain ⟨F, A, ρ, ok, h⟩ := h
  refine ⟨F, A, ρ, ok, h.bind (fun _ z => z) fun x ρ1 _ vx F1 H1 A1 B1 Z1 g ok1 r1 le1 z1 z2 z3 h1 => ?_⟩
  refine ⟨F1, A1, ρ1, ok1, h1.bind z1 fun y ρ2 _ vy F2 H2 A2 B2 Z2 g2 ok2 r2 le2 y1 y2 y3 h2 => ?_⟩
  have ap : ∀ a, B1 a ≠ 0 → A1 a = 0 := fun a z => by have := le1 a; omega
  have k := g2.kp (fun a z => r1.live a z) ap
  refine fin x y vx vy F2 H2 A2 Z2 ρ2 B1 B2 ok2 (r1.mono k) r2 (fun a => ?_) y1 (fun a z => y3 a (z2 a z)) y2 h2
  have l1 := le1 a
  have l2 := le2 a
  by_cases z : B1 a = 0
  · omega
  · have := g2.apart (fun a z => r1.live a z) ap a z
    omega
theorem rd3 {ma mb mc : M Opd} {rest : Opd → Opd → Opd → M β} {r : V → V → V → Hp → (ζ → Hp → Prop) → Prop} (h : tM G W R' (bnd ma fun x => bnd mb fun y => bnd mc fun z => rest x y z) σ H Q)
    (fin : ∀ x y z vx vy vz F H A Z ρ B C D, Ok F H σ ρ A → RO F H σ ρ x vx B → RO F H σ ρ y vy C → RO F H σ ρ z vz D → (∀ a, A a + B a + C a + D a ≤ 1) → Le A Z → Le B Z → Le C Z → Le D Z → Aft G W R' F H Z σ (rest x y z ρ) Q → r vx vy vz H Q) :
    tM G W RO ma σ H (fun vx H1 => tM G W RO mb σ H1 fun vy H2 => tM G W RO mc σ H2 fun vz H3 => r vx vy vz H3 Q) := by
  obtain ⟨F, A, ρ, ok, h⟩ := h
  refine ⟨F, A, ρ, ok, h.bind (fun _ z => z) fun x ρ1 _ vx F1 H1 A1 B1 Z1 g ok1 r1 le1 z1 z2 z3 h1 => ?_⟩
  refine ⟨F1, A1, ρ1, ok1, h1.bind z1 fun y ρ2 _ vy F2 H2 A2 B2 Z2 g2 ok2 r2 le2 y1 y2 y3 h2 => ?_⟩
  have ap : ∀ a, B1 a ≠ 0 → A1 a = 0 := fun a z => by have := le1 a; omega
  have k := g2.kp (fun a z => r1.live a z) ap
  have sum2 : ∀ a, A2 a + B1 a + B2 a ≤ 1 := fun a => by
    have l1 := le1 a
    have l2 := le2 a
    by_cases z : B1 a = 0
    · omega
    · have := g2.apart (fun a z => r1.live a z) ap a z
      omega
  have r1' := r1.mono (ρ' := ρ2) k
  refine ⟨F2, A2, ρ2, ok2, h2.bind y1 fun z ρ3 _ vz F3 H3 A3 B3 Z3 g3 ok3 r3 le3 w1 w2 w3 h3 => ?_⟩
  have apx : ∀ a, B1 a ≠ 0 → A2 a = 0 := fun a z => by have := sum2 a; omega
  have apy : ∀ a, B2 a ≠ 0 → A2 a = 0 := fun a z => by have := sum2 a; omega
  refine fin x y z vx vy vz F3 H3 A3 Z3 ρ3 B1 B2 B3 ok3 (r1'.mono (g3.kp (fun a z => r1'.live a z) apx)) (r2.mono (g3.kp (fun a z => r2.live a z) apy)) r3 (fun a => ?_) w1 (fun a z => w3 a (y3 a (z2 a z))) (fun a z => w3 a (y2 a z)) w2 h3
  have l := le3 a
  have s := sum2 a
  by_cases z : B1 a = 0
  · by_cases z' : B2 a = 0
    · omega
    · have := g3.apart (fun a z => r2.live a z) apy a z'
      omega
  · have := g3.apart (fun a z => r1'.live a z) apx a z
    omega
end

/-! ### shared items -/
/-- the root may be read, its items are shared -/
def DK (F H : Hp) : PyData → V → Prop
  | .list xs, v => ∃ a vs, v = .ref a ∧ Rd H a (.lst vs) ∧ Fzs F xs vs
  | .dict kvs, v => ∃ a, v = .ref a ∧ ((∃ ks, Rd H a (.dK ks) ∧ FzK F kvs ks) ∨ (∃ ks, Rd H a (.dT ks) ∧ FzT F kvs ks))
  | d, v => Fz F d v
theorem DK.of_fz {F H : Hp} (fk : FOk F H) {d : PyData} {v : V} (h : Fz F d v) : DK F H d v := by
  cases d with
  | list xs => obtain ⟨a, vs, e, f, r⟩ := h; exact ⟨a, vs, e, fk _ _ f, r⟩
  | dict kvs =>
    obtain ⟨a, e, r⟩ := h
    refine ⟨a, e, ?_⟩
    rcases r with ⟨ks, f, r⟩ | ⟨ks, f, r⟩
    · exact .inl ⟨ks, fk _ _ f, r⟩
    · exact .inr ⟨ks, fk _ _ f, r⟩
  | none => exact h
  | bool _ => exact h
  | int _ => exact h
  | str _ => exact h
  | tuple _ => exact h
theorem DK.of_rep1 {F H : Hp} {d : PyData} {v : V} {A : Ft} (h : Rep F H 1 d v A) : DK F H d v := by
  cases d with
  | list xs => obtain ⟨a, vs, B, e, f, n, r, s⟩ := h; exact ⟨a, vs, e, .inl f, (reps0_iff.mp r).1⟩
  | dict kvs =>
    obtain ⟨a, B, e, n, r, s⟩ := h
    refine ⟨a, e, ?_⟩
    rcases r with ⟨ks, f, r⟩ | ⟨ks, f, r⟩
    · obtain ⟨q, r⟩ := repsK_iff.mp r
      exact .inl ⟨ks, .inl f, fzK_iff.mpr ⟨q, (reps0_iff.mp r).1⟩⟩
    · obtain ⟨q, r⟩ := repsT_iff.mp r
      exact .inr ⟨ks, .inl f, fzT_iff.mpr ⟨q, (reps0_iff.mp r).1⟩⟩
  | none => exact h.1
  | bool _ => exact h.1
  | int _ => exact h.1
  | str _ => exact h.1
  | tuple _ => obtain ⟨a, vs, e, f, r⟩ := h; exact ⟨a, vs, e, f, (reps0_iff.mp r).1⟩
theorem DK.of_ro {F H : Hp} {d : PyData} {v : V} {A : Ft} (h : RepRo F H d v A) : DK F H d v := by
  cases d with
  | list xs => obtain ⟨a, vs, e, f, n, r, s⟩ := h; exact ⟨a, vs, e, .inl f, r⟩
  | dict kvs => obtain ⟨a, e, n, r, s⟩ := h; exact ⟨a, e, r⟩
  | none => exact h.1
  | bool _ => exact h.1
  | int _ => exact h.1
  | str _ => exact h.1
  | tuple _ => exact h.1
theorem DK.mono {F F' H : Hp} (s : Sub F F') {d : PyData} {v : V} (h : DK F H d v) : DK F' H d v := by
  cases d with
  | list xs => obtain ⟨a, vs, e, f, r⟩ := h; exact ⟨a, vs, e, f, Fzs.mono s _ _ r⟩
  | dict kvs =>
    obtain ⟨a, e, r⟩ := h
    refine ⟨a, e, ?_⟩
    rcases r with ⟨ks, f, r⟩ | ⟨ks, f, r⟩
    · exact .inl ⟨ks, f, FzK.mono s _ _ r⟩
    · exact .inr ⟨ks, f, FzT.mono s _ _ r⟩
  | none => exact h
  | bool _ => exact h
  | int _ => exact h
  | str _ => exact h
  | tuple _ => exact Fz.mono s _ _ h
theorem DK.dr {F H : Hp} (fk : FOk F H) {d : PyData} {v : V} (h : DK F H d v) : DR H d v := by
  cases d with
  | list xs => obtain ⟨a, vs, e, f, r⟩ := h; exact ⟨a, vs, e, f, Fzs.dr fk _ _ r⟩
  | dict kvs =>
    obtain ⟨a, e, r⟩ := h
    refine ⟨a, e, ?_⟩
    rcases r with ⟨ks, f, r⟩ | ⟨ks, f, r⟩
    · exact .inl ⟨ks, f, FzK.dr fk _ _ r⟩
    · exact .inr ⟨ks, f, FzT.dr fk _ _ r⟩
  | none => exact h
  | bool _ => exact h
  | int _ => exact h
  | str _ => exact h
  | tuple _ => exact Fz.dr fk _ _ h
section
variable {G : Glob} {W : WX} {R' : Rr β ζ} {F H : Hp} {A B Z : Ft} {σ : L2.St} {ρ : Sts} {Q : ζ → Hp → Prop}
theorem Exr.base {F F' H : Hp} {B B' Z : Ft} (e : Exr F H F' B B') (bz : Le B Z) : Go F H Z F' H Z := ⟨e.sub, fun _ _ _ h => h, fun _ _ _ => rfl, fun _ z => .inl z, fun a z => .inl (bz a (e.new a z).1)⟩
/-- a slot's level is set lower -/
theorem Ok.lowS (ok : Ok F H σ ρ A) {i k j : Nat} {d : PyData} (e : ρ[i]? = some (.val k d)) (hj : j ≤ k) : ∃ x F' A' B', σ[i]? = some (some x) ∧ Rep F' H j d x B' ∧ Exr F H F' A A' ∧ Ok F' H σ (ρ.set i (.val j d)) A' ∧ Le A' A := by
  obtain ⟨o, B, C, e1, h1, h2, h3⟩ := RepS.focus ok.rep e
  obtain ⟨x, rfl, r⟩ := h1
  obtain ⟨F', B', ex, r'⟩ := lower k j hj d x B F ok.fok r fun a => by have := ok.one a; rw [h2 a] at this; omega
  refine ⟨x, F', fun a => B' a + C a, B', e1, r', ⟨ex.sub, ex.fok, fun a => by have := ex.le a; rw [h2 a]; omega, fun a z => ?_⟩, ⟨ex.fok, ?_, fun a => ?_⟩, fun a z => ?_⟩
  · obtain ⟨n1, n2⟩ := ex.new a z
    have := ok.one a
    rw [h2 a] at this ⊢
    exact ⟨by omega, by show B' a + C a = 0; omega⟩
  · have := h3 F' H (.val j d) (some x) B' (fun a => B' a + C a) (ex.kp fun a z => by have := ok.one a; rw [h2 a] at this; omega) ⟨x, rfl, r'⟩ fun a => rfl
    rw [set_self e1] at this
    exact this
  · have := ex.le a
    have := ok.one a
    rw [h2 a] at this
    show B' a + C a ≤ 1
    omega
  · have z' : B' a + C a ≠ 0 := z
    have := ex.le a
    rw [h2 a]
    omega
/-- a thing just made, its level is set lower -/
theorem Ok.lowT (ok : Ok F H σ ρ A) {k j : Nat} {d : PyData} {x : V} (r : Rep F H k d x B) (le : ∀ a, A a + B a ≤ 1) (hj : j ≤ k) : ∃ F' B', Rep F' H j d x B' ∧ Exr F H F' B B' ∧ Ok F' H σ ρ A := by
  obtain ⟨F', B', ex, r'⟩ := lower k j hj d x B F ok.fok r fun a => by have := le a; omega
  exact ⟨F', B', r', ex, ⟨ex.fok, RepS.mono (ex.kp fun a z => by have := le a; omega) ok.rep, ok.one⟩⟩
theorem Ok.kids (ok : Ok F H σ ρ A) {o : Opd} {x : V} (r : RO F H σ ρ o x B) (le : ∀ a, A a + B a ≤ 1) (az : Le A Z) (bz : Le B Z) {k : PyData → M β} (h : Aft G W R' F H Z σ (bnd (kids o) k ρ) Q) :
    ∃ d F' A' ρ', Ok F' H σ ρ' A' ∧ DK F' H d x ∧ Le A' A ∧ Sub F F' ∧ (∀ a, F' a ≠ F a → A a ≠ 0 ∨ B a ≠ 0) ∧ Aft G W R' F' H Z σ (k d ρ') Q := by
  cases o with
  | t n d =>
    have h' : Aft G W R' F H Z σ (k d ρ) Q := h
    cases n with
    | zero => exact ⟨d, F, A, ρ, ok, DK.of_fz ok.fok r.1, fun _ z => z, Sub.refl F, fun a z => absurd rfl z, h'⟩
    | succ n =>
      obtain ⟨F', B', r', ex, ok'⟩ := ok.lowT r le (show 1 ≤ n + 1 by omega)
      exact ⟨d, F', A, ρ, ok', DK.of_rep1 r', fun _ z => z, ex.sub, fun a z => .inr (ex.new a z).1, h'.base (ex.base bz)⟩
  | s i =>
    unfold bnd PD.kids at h
    cases q : ρ[i]? with
    | none => simp only [q] at h; exact (h : False).elim
    | some s =>
      simp only [q] at h
      cases s with
      | dead => exact (h : False).elim
      | ro d =>
        obtain ⟨o, B, C, e1, h1, h2, h3⟩ := RepS.focus ok.rep q
        obtain ⟨y, rfl, ry⟩ := h1
        rw [r.1] at e1; cases e1
        exact ⟨d, F, A, ρ, ok, DK.of_ro ry, fun _ z => z, Sub.refl F, fun a z => absurd rfl z, h⟩
      | val n d =>
        by_cases hn : 2 ≤ n
        · obtain ⟨y, F', A', B', e1, ry, ex, ok', la⟩ := ok.lowS q (show 1 ≤ n by omega)
          rw [r.1] at e1; cases e1
          have h' : Aft G W R' F H Z σ (k d (if 2 ≤ n then ρ.set i (.val 1 d) else ρ)) Q := h
          rw [if_pos hn] at h'
          exact ⟨d, F', A', _, ok', DK.of_rep1 ry, la, ex.sub, fun a z => .inl (ex.new a z).1, h'.base (ex.base az)⟩
        · have h' : Aft G W R' F H Z σ (k d (if 2 ≤ n then ρ.set i (.val 1 d) else ρ)) Q := h
          rw [if_neg hn] at h'
          obtain ⟨o, B, C, e1, h1, h2, h3⟩ := RepS.focus ok.rep q
          obtain ⟨y, rfl, ry⟩ := h1
          rw [r.1] at e1; cases e1
          refine ⟨d, F, A, ρ, ok, ?_, fun _ z => z, Sub.refl F, fun a z => absurd rfl z, h'⟩
          match n, hn, ry with
          | 0, _, ry => exact DK.of_fz ok.fok ry.1
          | 1, _, ry => exact DK.of_rep1 ry
          | n + 2, hn, _ => omega
end
end PD
end
section
/-! PD4: operations on data, by their values. -/
namespace PD
open PySem PySem.Spec PyProof.Rows L2

/-- the context: sys.modules stands in the base; nothing is being shown; there is room -/
structure Cz (X : Cx) : Prop where
  sys : ∃ o, X.base.get? sysModules = some o
  gd : X.A.guards = some []
  un : X.A.units + 200 < cLine
  calm : X.calm = true
section
variable {X : Cx} {pins : List (Addr × Obj)} {σ : L2.St} {H : Hp} {s : Shared}
theorem Cz.apart (z : Cz X) (I : Inv X pins σ H s) {a : Addr} (h : H a ≠ none) : a ≠ sysModules := fun e => by
  obtain ⟨o, h1⟩ := z.sys
  have := (I.bs _ _ h1).2
  rw [e] at h
  exact h this
theorem reads_keys {P : Program} {w : World} {h : Heap} : ∀ (ks : List Key) (us : List Value), Vals (ks.map kV) us → ReadsAll h us (ks.map keyPy) []
  | [], us, r => by cases r; exact .nil
  | .inl i :: ks, us, r => by
    cases r with
    | cons a b =>
      obtain ⟨t, rfl⟩ := a
      exact .cons (as := []) (.int i t) (reads_keys (P := P) (w := w) ks _ b)
  | .inr i :: ks, us, r => by
    cases r with
    | cons a b =>
      obtain ⟨t, rfl⟩ := a
      exact .cons (as := []) (.str i t) (reads_keys (P := P) (w := w) ks _ b)
mutual
theorem DR.reads (z : Cz X) (I : Inv X pins σ H s) : ∀ (d : PyData) (v : V) (u : Value), DR H d v → RelV v u → ∃ as, Reads s.heap u d as ∧ sysModules ∉ as
  | .none, _, _, h, r => by
    cases (show _ = V.non from h)
    cases (show _ = Value.none from r)
    exact ⟨_, Reads.none, by simp⟩
  | .bool b, _, _, h, r => by
    cases (show _ = V.bl b from h)
    cases (show _ = Value.bool b from r)
    exact ⟨_, Reads.bool b, by simp⟩
  | .int i, _, _, h, r => by
    cases (show _ = V.int i from h)
    obtain ⟨t, rfl⟩ := (show ∃ t, _ = Value.int i t from r)
    exact ⟨_, Reads.int i t, by simp⟩
  | .str x, _, _, h, r => by
    cases (show _ = V.str x from h)
    obtain ⟨t, rfl⟩ := (show ∃ t, _ = Value.str x t from r)
    exact ⟨_, Reads.str x t, by simp⟩
  | .list xs, _, _, ⟨a, vs, e, h1, h2⟩, r => by
    subst e
    cases (show _ = Value.ref a from r)
    obtain ⟨its, rv, ⟨o, n, ho, hc, _, hd⟩, _⟩ := I.list (.inl h1)
    obtain ⟨as, hr, ha⟩ := DRs.reads z I xs vs its h2 rv
    refine ⟨_, Reads.list ho hc hd hr, ?_⟩
    have := z.apart I (rd_live h1)
    simp only [List.mem_cons, not_or]
    exact ⟨fun q => this q.symm, ha⟩
  | .tuple xs, _, _, ⟨a, vs, e, h1, h2⟩, r => by
    subst e
    cases (show _ = Value.ref a from r)
    obtain ⟨its, rv, ⟨o, ho, hc, n, hd⟩, _⟩ := I.tuple (.inl (.inl h1))
    obtain ⟨as, hr, ha⟩ := DRs.reads z I xs vs its h2 rv
    exact ⟨_, Reads.tuple ho hc hd hr, ha⟩
  | .dict kvs, _, _, ⟨a, e, .inl ⟨ks, h1, h2⟩⟩, r => by
    subst e
    cases (show _ = Value.ref a from r)
    obtain ⟨_, hd, vs, kv, o, es, ep, ho, ex, hda, hk, hp, _⟩ := dk_rd I.hok h1
    obtain ⟨as, r1, ha⟩ := DRK.reads z I kvs ks vs es.toList h2 kv hp
    refine ⟨_, Reads.dict ho ex.1 hda r1.1 r1.2, ?_⟩
    have := z.apart I (rd_live h1)
    simp only [List.cons_append, List.mem_cons, not_or, List.nil_append]
    exact ⟨fun q => this q.symm, ha⟩
  | .dict kvs, _, _, ⟨a, e, .inr ⟨ks, h1, h2⟩⟩, r => by
    subst e
    cases (show _ = Value.ref a from r)
    obtain ⟨_, hd, xs, kt, o, es, ep, ho, ex, hda, he, _⟩ := (show ObjOk X.prog X.w H s.heap a (.dT ks) from h1.ok I.hok)
    obtain ⟨as, r1, ha⟩ := DRT.reads z I kvs ks xs h2 kt
    rw [← he] at r1
    refine ⟨_, Reads.dict ho ex.1 hda r1.1 r1.2, ?_⟩
    have := z.apart I (rd_live h1)
    simp only [List.cons_append, List.mem_cons, not_or, List.nil_append]
    exact ⟨fun q => this q.symm, ha⟩
theorem DRs.reads (z : Cz X) (I : Inv X pins σ H s) : ∀ (ds : List PyData) (vs : List V) (us : List Value), DRs H ds vs → Vals vs us → ∃ as, ReadsAll s.heap us ds as ∧ sysModules ∉ as
  | [], _, _, h, r => by
    cases (show _ = ([] : List V) from h)
    cases r
    exact ⟨_, ReadsAll.nil, by simp⟩
  | d :: ds, _, _, ⟨v, q, e, h1, h2⟩, r => by
    subst e
    cases r with
    | cons r1 r2 =>
      obtain ⟨as, q1, a1⟩ := DR.reads z I d _ _ h1 r1
      obtain ⟨bs, q2, a2⟩ := DRs.reads z I ds _ _ h2 r2
      exact ⟨_, ReadsAll.cons q1 q2, by simp [a1, a2]⟩
theorem DRK.reads (z : Cz X) (I : Inv X pins σ H s) : ∀ (kvs : List (PyData × PyData)) (ks : List (Key × V)) (vs : List (Key × Value)) (es : List DictEntry), DRK H kvs ks → KV ks vs → Pairs (mixKind X.prog X.w) es vs →
    ∃ bs, (ReadsAll s.heap (es.map (·.key)) (kvs.map (·.1)) [] ∧ ReadsAll s.heap (es.map (·.val)) (kvs.map (·.2)) bs) ∧ sysModules ∉ bs
  | [], _, _, _, h, r, p => by
    cases (show _ = ([] : List (Key × V)) from h)
    cases r
    cases p
    exact ⟨_, ⟨.nil, .nil⟩, by simp⟩
  | (k, x) :: kvs, _, _, _, ⟨q, v, t, e, ek, h1, h2⟩, r, p => by
    subst e ek
    cases r with
    | cons r1 r2 =>
      cases p with
      | cons p1 p2 p3 =>
        obtain ⟨bs, ⟨q1, q2⟩, a1⟩ := DRK.reads z I kvs _ _ _ h2 r2 p3
        obtain ⟨as, q3, a2⟩ := DR.reads z I x _ _ h1 r1.2
        refine ⟨as ++ bs, ⟨?_, ?_⟩, by simp [a1, a2]⟩
        · have e1 := r1.1
          simp only at e1
          rcases keyIs_shape (show keyIs _ _ = true from p1) with ⟨i, t, e2, e3⟩ | ⟨i, t, e2, e3⟩
          · rw [List.map_cons, List.map_cons, e3, e1, e2]
            exact .cons (as := []) (.int i t) q1
          · rw [List.map_cons, List.map_cons, e3, e1, e2]
            exact .cons (as := []) (.str i t) q1
        · rw [List.map_cons, List.map_cons, p2]
          exact .cons q3 q2
theorem DRT.reads (z : Cz X) (I : Inv X pins σ H s) : ∀ (kvs : List (PyData × PyData)) (ks : List (List Key × V)) (xs : List (List Key × Addr × Value)), DRT H kvs ks → KT H ks xs →
    ∃ bs, (ReadsAll s.heap ((xs.map (entryOfKey (tupleKind (mixKind X.prog X.w)))).map (·.key)) (kvs.map (·.1)) [] ∧ ReadsAll s.heap ((xs.map (entryOfKey (tupleKind (mixKind X.prog X.w)))).map (·.val)) (kvs.map (·.2)) bs) ∧ sysModules ∉ bs
  | [], _, _, h, r => by
    cases (show _ = ([] : List (List Key × V)) from h)
    cases r
    exact ⟨_, ⟨.nil, .nil⟩, by simp⟩
  | (k, x) :: kvs, _, _, ⟨q, v, t, e, ek, h1, h2⟩, r => by
    subst e ek
    cases r with
    | cons r1 r2 =>
      obtain ⟨bs, ⟨q1, q2⟩, a1⟩ := DRT.reads z I kvs _ _ h2 r2
      obtain ⟨e1, e2, e3⟩ := r1
      obtain ⟨as, q3, a2⟩ := DR.reads z I x _ _ h1 e3
      refine ⟨as ++ bs, ⟨?_, .cons q3 q2⟩, by simp [a1, a2]⟩
      obtain ⟨its, rv, ⟨o, ho, hc, n, hd⟩, _⟩ := I.tuple (.inl (.inl e2))
      refine .cons (as := []) ?_ q1
      exact Reads.tuple ho hc hd (reads_keys (P := X.prog) (w := X.w) q _ (by simpa using rv))
end
end

/-! ### comparisons -/
def rC (f : PyData → PyData → Option Bool) : R2 := fun x y H Q => ∃ da db b, DR H da x ∧ DR H db y ∧ f da db = some b ∧ Q (.bl b) H
theorem and_t {a b : Bool} (h : (a && b) = true) : a = true ∧ b = true := Bool.and_eq_true_iff.mp h
theorem leaf_key : ∀ {d : PyData}, keyLeaf d = true → ∃ k : Key, d = keyPy k
  | .int i, _ => ⟨.inl i, rfl⟩
  | .str s, _ => ⟨.inr s, rfl⟩
  | .none, h => by cases h
  | .bool _, h => by cases h
  | .list _, h => by cases h
  | .tuple _, h => by cases h
  | .dict _, h => by cases h
theorem leafs_key : ∀ {xs : List PyData}, xs.all keyLeaf = true → ∃ ks : List Key, xs = ks.map keyPy
  | [], _ => ⟨[], rfl⟩
  | x :: xs, h => by
    rw [List.all_cons] at h
    obtain ⟨h1, h2⟩ := and_t h
    obtain ⟨k, e⟩ := leaf_key h1
    obtain ⟨ks, e2⟩ := leafs_key h2
    exact ⟨k :: ks, by rw [e, e2]; rfl⟩
theorem tup_key : ∀ {d : PyData}, keyTup d = true → ∃ ks : List Key, d = tkeyPy ks
  | .tuple xs, h => by
    obtain ⟨ks, e⟩ := leafs_key (show xs.all keyLeaf = true from h)
    exact ⟨ks, by rw [e]; rfl⟩
  | .none, h => by cases h
  | .bool _, h => by cases h
  | .list _, h => by cases h
  | .int _, h => by cases h
  | .str _, h => by cases h
  | .dict _, h => by cases h
theorem keyPy_inj : ∀ {a b : Key}, keyPy a = keyPy b → a = b
  | .inl i, .inl j, e => by injection e with e; rw [e]
  | .inr i, .inr j, e => by injection e with e; rw [e]
  | .inl i, .inr j, e => by cases e
  | .inr i, .inl j, e => by cases e
theorem keyEq_leaf : ∀ (a b : Key), keyEq (keyPy a) (keyPy b) = decide (a = b)
  | .inl i, .inl j => by
    show decide (i = j) = _
    by_cases e : i = j
    · subst e; simp
    · rw [decide_eq_false e, decide_eq_false fun q => e (Sum.inl.inj q)]
  | .inr i, .inr j => by
    show decide (i = j) = _
    by_cases e : i = j
    · subst e; simp
    · rw [decide_eq_false e, decide_eq_false fun q => e (Sum.inr.inj q)]
  | .inl i, .inr j => (decide_eq_false fun q => nomatch q).symm
  | .inr i, .inl j => (decide_eq_false fun q => nomatch q).symm
theorem keyEqAll_leaf : ∀ (a b : List Key), keyEqAll (a.map keyPy) (b.map keyPy) = decide (a = b)
  | [], [] => rfl
  | [], b :: bs => by cases b <;> exact (decide_eq_false fun q => nomatch q).symm
  | a :: as, [] => by cases a <;> exact (decide_eq_false fun q => nomatch q).symm
  | a :: as, b :: bs => by
    have h : keyEqAll ((a :: as).map keyPy) ((b :: bs).map keyPy) = (keyEq (keyPy a) (keyPy b) && keyEqAll (as.map keyPy) (bs.map keyPy)) := by
      cases a <;> cases b <;> rfl
    rw [h, keyEq_leaf, keyEqAll_leaf as bs]
    by_cases e : a = b
    · subst e; simp
    · rw [decide_eq_false e, Bool.false_and]
      exact (decide_eq_false fun q => e (List.cons.inj q).1).symm
theorem keyEq_tup (a b : List Key) : keyEq (tkeyPy a) (tkeyPy b) = decide (a = b) := keyEqAll_leaf a b
theorem DRK.get {H : Hp} (k : Key) : ∀ {kvs : List (PyData × PyData)} {ks : List (Key × V)}, DRK H kvs ks → (dget kvs (keyPy k) = none ∧ valV ks k = none) ∨ ∃ d v, dget kvs (keyPy k) = some d ∧ valV ks k = some v ∧ DR H d v
  | [], _, h => by cases (show _ = ([] : List (Key × V)) from h); exact .inl ⟨rfl, rfl⟩
  | (j, x) :: r, _, ⟨q, v, t, e, ej, h1, h2⟩ => by
    subst e ej
    unfold dget
    rw [keyEq_leaf]
    by_cases e : q = k
    · subst e
      rw [if_pos (decide_eq_true rfl)]
      exact .inr ⟨x, v, rfl, by rw [valV_pos rfl], h1⟩
    · rw [if_neg (by simpa using e), valV_neg e]
      exact DRK.get k h2
theorem DRT.get {H : Hp} (k : List Key) : ∀ {kvs : List (PyData × PyData)} {ks : List (List Key × V)}, DRT H kvs ks → (dget kvs (tkeyPy k) = none ∧ valV ks k = none) ∨ ∃ d v, dget kvs (tkeyPy k) = some d ∧ valV ks k = some v ∧ DR H d v
  | [], _, h => by cases (show _ = ([] : List (List Key × V)) from h); exact .inl ⟨rfl, rfl⟩
  | (j, x) :: r, _, ⟨q, v, t, e, ej, h1, h2⟩ => by
    subst e ej
    unfold dget
    rw [keyEq_tup]
    by_cases e : q = k
    · subst e
      rw [if_pos (decide_eq_true rfl)]
      exact .inr ⟨x, v, rfl, by rw [valV_pos rfl], h1⟩
    · rw [if_neg (by simpa using e), valV_neg e]
      exact DRT.get k h2
end PD
end
section
/-! PD5: the operations hold: comparisons. -/
namespace PD
open PySem PySem.Spec PyProof.Rows L2

section
variable {X : Cx} {pins : List (Addr × Obj)} {σ : L2.St} {H : Hp} {s : Shared}
/-- an empty dict, whatever it was said to be -/
def Hollow (X : Cx) (H : Hp) (s : Shared) (a : Addr) (y : V) : Prop := (a == sysModules) = false ∧
  ((∃ k, y = kV k ∧ s.heap.DictOf (mixKind X.prog X.w) a []) ∨ ∃ (k : List Key) (b : Addr), y = .ref b ∧ H b = some (.tup (k.map kV)) ∧ s.heap.DictOfH (tupleKind (mixKind X.prog X.w)) a [])
theorem hollowK (I : Inv X pins σ H s) {a : Addr} (h : Rd H a (.dT [])) : (a == sysModules) = false ∧ s.heap.DictOf (mixKind X.prog X.w) a [] := by
  obtain ⟨_, hd, xs, kt, o, es, ep, e1, e2, e3, e4, _⟩ := dt_rd I.hok h
  cases kt
  have ez : es = #[] := by apply Array.toList_inj.mp; rw [e4]; rfl
  subst ez
  exact ⟨hd, o, #[], ep, e1, e2, e3, fun e he => absurd he (by simp), .nil, List.nodup_nil⟩
theorem hollowT (I : Inv X pins σ H s) {a : Addr} (h : Rd H a (.dK [])) : (a == sysModules) = false ∧ s.heap.DictOfH (tupleKind (mixKind X.prog X.w)) a [] := by
  obtain ⟨_, hd, xs, kt, o, es, ep, e1, e2, e3, _, e4, _⟩ := dk_rd I.hok h
  cases kt
  have ez : es.toList = [] := List.eq_nil_of_length_eq_zero (by rw [e4.length]; rfl)
  exact ⟨hd, o, es, ep, e1, e2, e3, by rw [ez]; rfl, fun x hx => absurd hx (by simp), List.nodup_nil⟩
theorem kV_of : ∀ {k : Key} {v : V} {H : Hp}, DR H (keyPy k) v → v = kV k
  | .inl i, v, _, h => h
  | .inr i, v, _, h => h
theorem kVs_of {H : Hp} : ∀ {ks : List Key} {vs : List V}, DRs H (ks.map keyPy) vs → vs = ks.map kV
  | [], _, h => h
  | k :: ks, _, ⟨v, r, e, h1, h2⟩ => by rw [e, kV_of h1, kVs_of h2]; rfl
/-- what a dict says of a key -/
def DGot (X : Cx) (H : Hp) (s : Shared) (a : Addr) (y : V) (o : Option V) : Prop := DGet H a y o ∨ (o = none ∧ Hollow X H s a y)
theorem leaf_not_tup {k : Key} {ks : List Key} (h : keyPy k = tkeyPy ks) : False := by cases k <;> cases h
theorem dgot (I : Inv X pins σ H s) {kvs : List (PyData × PyData)} {dk : PyData} {x y : V} (hx : DR H (.dict kvs) x) (hy : DR H dk y) (hk : keyOk kvs dk = true) :
    ∃ a o, x = .ref a ∧ IsD H a ∧ DGot X H s a y o ∧ ((dget kvs dk = none ∧ o = none) ∨ ∃ d w, dget kvs dk = some d ∧ o = some w ∧ DR H d w) := by
  obtain ⟨a, rfl, hx⟩ := hx
  unfold keyOk at hk
  rcases Bool.or_eq_true_iff.mp hk with hk | hk
  · obtain ⟨h1, h2⟩ := and_t hk
    obtain ⟨k, rfl⟩ := leaf_key h1
    obtain rfl := kV_of hy
    rcases hx with ⟨ks, r, q⟩ | ⟨ks, r, q⟩
    · refine ⟨a, valV ks k, rfl, .inl ⟨ks, r⟩, .inl (.inl ⟨ks, k, r, rfl, rfl⟩), ?_⟩
      rcases DRK.get k q with g | ⟨d, v, g1, g2, g3⟩
      · exact .inl g
      · exact .inr ⟨d, v, g1, g2, g3⟩
    · cases kvs with
      | nil =>
        cases (show ks = [] from q)
        exact ⟨a, none, rfl, .inr ⟨[], r⟩, .inr ⟨rfl, (hollowK I r).1, .inl ⟨k, rfl, (hollowK I r).2⟩⟩, .inl ⟨rfl, rfl⟩⟩
      | cons p kvs =>
        obtain ⟨j, z⟩ := p
        obtain ⟨qq, v, t, e, ek, _⟩ := q
        subst ek
        unfold allLeaf at h2
        rw [List.all_cons] at h2
        obtain ⟨w, e⟩ := leaf_key (and_t h2).1
        exact (leaf_not_tup e.symm).elim
  · obtain ⟨h1, h2⟩ := and_t hk
    obtain ⟨k, rfl⟩ := tup_key h1
    obtain ⟨b, vs, rfl, eb, q2⟩ := hy
    obtain rfl := kVs_of q2
    rcases hx with ⟨ks, r, q⟩ | ⟨ks, r, q⟩
    · cases kvs with
      | nil =>
        cases (show ks = [] from q)
        exact ⟨a, none, rfl, .inl ⟨[], r⟩, .inr ⟨rfl, (hollowT I r).1, .inr ⟨k, b, rfl, eb, (hollowT I r).2⟩⟩, .inl ⟨rfl, rfl⟩⟩
      | cons p kvs =>
        obtain ⟨j, z⟩ := p
        obtain ⟨qq, v, t, e, ek, _⟩ := q
        subst ek
        unfold allTup at h2
        rw [List.all_cons] at h2
        obtain ⟨w, e⟩ := tup_key (and_t h2).1
        exact (leaf_not_tup e).elim
    · refine ⟨a, valV ks k, rfl, .inr ⟨ks, r⟩, .inl (.inr ⟨ks, k, b, r, rfl, eb, rfl⟩), ?_⟩
      rcases DRT.get k q with g | ⟨d, v, g1, g2, g3⟩
      · exact .inl g
      · exact .inr ⟨d, v, g1, g2, g3⟩
variable {A : Around} {E : Value → Shared → Prop} {a : Addr} {y : V} {u : Value} {o : Option V}
theorem g_in {Q : Value → Shared → Prop} (hu : A.units + 1 < cLine) (I : Inv X pins σ H s) (g : DGot X H s a y o) (ry : RelV y u) (h : ∀ s', Inv X pins σ H s' → Q (.bool o.isSome) s') :
    wpAny (model X.prog X.w) A (compareOp .In u (.ref a)) Q E s := by
  rcases g with g | ⟨rfl, hd, ⟨k, rfl, dd⟩ | ⟨k, b, rfl, eb, dd⟩⟩
  · exact d_in hu I g ry h
  · exact wpAny_in_of (kV_is ry) hd dd.mapOf (h _ (I.tok _))
  · cases (show u = Value.ref b from ry)
    exact wpAny_in_heap (tupleKind_room_in1 hu) (key_of I.hok eb) hd dd (h _ (I.tok _))
theorem g_notIn {Q : Value → Shared → Prop} (hu : A.units + 1 < cLine) (I : Inv X pins σ H s) (g : DGot X H s a y o) (ry : RelV y u) (h : ∀ s', Inv X pins σ H s' → Q (.bool (!o.isSome)) s') :
    wpAny (model X.prog X.w) A (compareOp .NotIn u (.ref a)) Q E s := by
  rcases g with g | ⟨rfl, hd, ⟨k, rfl, dd⟩ | ⟨k, b, rfl, eb, dd⟩⟩
  · exact d_notIn hu I g ry h
  · exact wpAny_notIn_of (kV_is ry) hd dd.mapOf (h _ (I.tok _))
  · cases (show u = Value.ref b from ry)
    exact wpAny_notIn_heap (tupleKind_room_in1 hu) (key_of I.hok eb) hd dd (h _ (I.tok _))
theorem g_get1 {Q : Value → Shared → Prop} (hu : A.units + 1 < cLine) (I : Inv X pins σ H s) (g : DGot X H s a y o) (ry : RelV y u) (h : ∀ w' s', Inv X pins σ H s' → RelV (o.getD .non) w' → Q w' s') :
    wpAny (model X.prog X.w) A (call (.builtin "dict.get") [.ref a, u]) Q E s := by
  rcases g with g | ⟨rfl, hd, ⟨k, rfl, dd⟩ | ⟨k, b, rfl, eb, dd⟩⟩
  · exact d_get1 hu I g ry h
  · exact call_meetsIn PySem.F.slot_dict_get dd.typeIs PySem.F.entry_dict_get (PySem.F.args_dict_get_2 _ _) (meets_dict_get (mixKind X.prog X.w) a (kV_is ry) hd) ⟨_, dd.mapOf, h _ _ (I.tok _) rfl⟩
  · cases (show u = Value.ref b from ry)
    exact call_meetsIn PySem.F.slot_dict_get dd.typeIs PySem.F.entry_dict_get (PySem.F.args_dict_get_2 _ _) (meetsH_dict_get (tupleKind (mixKind X.prog X.w)) a b hd) ⟨tupleKind_room_in1 hu, k, [], key_of I.hok eb, dd, h _ _ (I.tok _) rfl⟩
theorem g_get2 {Q : Value → Shared → Prop} {d : V} {r : Value} (hu : A.units + 1 < cLine) (I : Inv X pins σ H s) (g : DGot X H s a y o) (ry : RelV y u) (rd : RelV d r) (h : ∀ w' s', Inv X pins σ H s' → RelV (o.getD d) w' → Q w' s') :
    wpAny (model X.prog X.w) A (call (.builtin "dict.get") [.ref a, u, r]) Q E s := by
  rcases g with g | ⟨rfl, hd, ⟨k, rfl, dd⟩ | ⟨k, b, rfl, eb, dd⟩⟩
  · exact d_get2 hu I g ry rd h
  · exact call_meetsIn PySem.F.slot_dict_get dd.typeIs PySem.F.entry_dict_get (PySem.F.args_dict_get_3 _ _ _) (meets_dict_get_default (mixKind X.prog X.w) a (kV_is ry) hd r) ⟨_, dd.mapOf, h _ _ (I.tok _) rd⟩
  · cases (show u = Value.ref b from ry)
    exact call_meetsIn PySem.F.slot_dict_get dd.typeIs PySem.F.entry_dict_get (PySem.F.args_dict_get_3 _ _ _) (meetsH_dict_get_default (tupleKind (mixKind X.prog X.w)) a b hd r) ⟨tupleKind_room_in1 hu, k, [], key_of I.hok eb, dd, h _ _ (I.tok _) rd⟩

/-! ### ==, != -/
theorem cm : cLine > 0 := by decide
theorem dk_all (I : Inv X pins σ H s) {kvs : List (PyData × PyData)} {x : V} (hx : DR H (.dict kvs) x) (hl : allLeaf kvs = true) :
    ∃ a ks vs, x = .ref a ∧ (a == sysModules) = false ∧ DRK H kvs ks ∧ KV ks vs ∧ s.heap.DictOf (mixKind X.prog X.w) a vs := by
  obtain ⟨a, rfl, ⟨ks, r, q⟩ | ⟨ks, r, q⟩⟩ := hx
  · obtain ⟨_, hd, vs, kv, dd⟩ := dk_rd I.hok r
    exact ⟨a, ks, vs, rfl, hd, q, kv, dd⟩
  · cases kvs with
    | nil =>
      cases (show ks = [] from q)
      exact ⟨a, [], [], rfl, (hollowK I r).1, rfl, .nil, (hollowK I r).2⟩
    | cons p kvs =>
      obtain ⟨j, z⟩ := p
      obtain ⟨qq, v, t, e, ek, _⟩ := q
      subst ek
      unfold allLeaf at hl
      rw [List.all_cons] at hl
      obtain ⟨w, e⟩ := leaf_key (and_t hl).1
      exact (leaf_not_tup e.symm).elim
theorem kv_hits (z : Cz X) (I : Inv X pins σ H s) {b : List (PyData × PyData)} {kb : List (Key × V)} {vb : List (Key × Value)} (qb : DRK H b kb) (rb : KV kb vb) (pb : plainKv b = true) (hA : A.units ≤ X.A.units + 1) :
    ∀ {a : List (PyData × PyData)} {ka : List (Key × V)} {va : List (Key × Value)}, DRK H a ka → KV ka va → plainKv a = true → PySem.W.KeqHits A s vb va (kvSub b a)
  | [], _, _, qa, ra, _ => by
    cases (show _ = [] from qa)
    cases ra
    exact .nil
  | (k, x) :: a, _, _, ⟨q, v, t, e, ek, h1, h2⟩, ra, pa => by
    subst e ek
    cases ra with
    | @cons p q' ps qs r1 r2 =>
      obtain ⟨k', v'⟩ := q'
      obtain ⟨e1, r1⟩ := r1
      simp only at e1 r1
      subst e1
      unfold plainKv at pa
      rw [List.all_cons] at pa
      obtain ⟨p1, p2⟩ := and_t pa
      obtain ⟨p1, p1'⟩ := and_t p1
      have rr := rb.val q
      unfold kvSub
      rcases DRK.get q qb with ⟨g1, g2⟩ | ⟨d, w, g1, g2, g3⟩
      · rw [g1]
        rw [g2] at rr
        refine .miss ?_
        cases hv : valueAt vb q with
        | none => rfl
        | some _ => rw [hv] at rr; exact rr.elim
      · rw [g1]
        rw [g2] at rr
        obtain ⟨y, hy, ry⟩ := rr.some_of
        have hd : d.plain = true := by
          have mem : ∀ {l : List (PyData × PyData)} {kk : PyData} {dd : PyData}, plainKv l = true → dget l kk = some dd → dd.plain = true := by
            intro l
            induction l with
            | nil => intro kk dd _ h; cases h
            | cons p l ih =>
              intro kk dd hp h
              obtain ⟨k0, v0⟩ := p
              unfold plainKv at hp
              rw [List.all_cons] at hp
              unfold dget at h
              split at h
              · cases h; exact (and_t (and_t hp).1).1
              · exact ih (and_t hp).2 h
          exact mem pb g1
        obtain ⟨as, rx, _⟩ := DR.reads z I x _ _ h1 r1
        obtain ⟨bs, ryy, _⟩ := DR.reads z I d _ _ g3 ry
        refine .hit hy (PySem.SeqAt.eqAt_plain x d A s _ _ as bs rx ryy p1 hd ?_) (kv_hits z I qb rb pb hA h2 r2 p2)
        have := z.un
        have : x.depth ≤ 50 := of_decide_eq_true p1'
        have := Nat.min_le_left x.depth d.depth
        omega
theorem kv_len {a : List (PyData × PyData)} {ka : List (Key × V)} {va : List (Key × Value)} (q : DRK H a ka) (r : KV ka va) : va.length = a.length := by
  rw [← r.length]
  induction a generalizing ka va with
  | nil => cases (show ka = [] from q); rfl
  | cons p a ih =>
    obtain ⟨k, x⟩ := p
    obtain ⟨q, v, t, e, ek, h1, h2⟩ := q
    subst e
    cases r with
    | cons r1 r2 => simp [ih h2 r2]
theorem fits (z : Cz X) {a b : PyData} (h : depthOk a b = true) : X.A.units + min a.depth b.depth < cLine := by
  have := z.un
  have := of_decide_eq_true h
  omega
theorem op_eqP (z : Cz X) : OpR X (compareOp .Eq) (rC cmpEq) := by
  intro pins s σ H x y v u Q I rx ry ⟨da, db, b, hx, hy, e, q⟩
  unfold cmpEq at e
  split at e
  · rename_i h
    cases e
    obtain ⟨h, h3⟩ := and_t h
    obtain ⟨h1, h2⟩ := and_t h
    obtain ⟨as, r1, _⟩ := DR.reads z I da _ _ hx rx
    obtain ⟨bs, r2, _⟩ := DR.reads z I db _ _ hy ry
    exact PySem.SeqAt.eq_plain r1 r2 h1 h2 (fits z h3) (fin_bl I q rfl)
  · split at e
    · rename_i xs ys _
      split at e
      · rename_i h
        cases e
        obtain ⟨h, h4⟩ := and_t h
        obtain ⟨h, h3⟩ := and_t h
        obtain ⟨h1, h2⟩ := and_t h
        obtain ⟨a, ka, va, rfl, ya, qa, ra, dda⟩ := dk_all I hx h3
        obtain ⟨b, kb, vb, rfl, yb, qb, rb, ddb⟩ := dk_all I hy h4
        cases rx
        cases ry
        refine PySem.W.keq_eq (knd := mixKind X.prog X.w) (r := kvSub ys xs) ya yb dda ddb (by have := z.un; omega) (fun _ => kv_hits z I qb rb h2 (Nat.le_refl _) qa ra h1) (fin_bl I q ?_)
        rw [kv_len qa ra, kv_len qb rb]
      · cases e
    · cases e
theorem op_neP (z : Cz X) : OpR X (compareOp .NotEq) (rC fun a b => notO (cmpEq a b)) := by
  intro pins s σ H x y v u Q I rx ry ⟨da, db, b, hx, hy, e, q⟩
  simp only at e
  cases e0 : cmpEq da db with
  | none => rw [e0] at e; cases e
  | some b' =>
  rw [e0] at e
  cases e
  unfold cmpEq at e0
  split at e0
  · rename_i h
    cases e0
    obtain ⟨h, h3⟩ := and_t h
    obtain ⟨h1, h2⟩ := and_t h
    obtain ⟨as, r1, _⟩ := DR.reads z I da _ _ hx rx
    obtain ⟨bs, r2, _⟩ := DR.reads z I db _ _ hy ry
    exact PySem.SeqAt.ne_plain r1 r2 h1 h2 (fits z h3) (fin_bl I q rfl)
  · split at e0
    · rename_i xs ys _
      split at e0
      · rename_i h
        cases e0
        obtain ⟨h, h4⟩ := and_t h
        obtain ⟨h, h3⟩ := and_t h
        obtain ⟨h1, h2⟩ := and_t h
        obtain ⟨a, ka, va, rfl, ya, qa, ra, dda⟩ := dk_all I hx h3
        obtain ⟨b, kb, vb, rfl, yb, qb, rb, ddb⟩ := dk_all I hy h4
        cases rx
        cases ry
        refine PySem.W.keq_ne (knd := mixKind X.prog X.w) (r := kvSub ys xs) ya yb dda ddb (by have := z.un; omega) (fun _ => kv_hits z I qb rb h2 (Nat.le_refl _) qa ra h1) (fin_bl I q ?_)
        rw [kv_len qa ra, kv_len qb rb]
      · cases e0
    · cases e0
end
end PD
end
section
/-! PD6: the other comparisons. -/
namespace PD
open PySem PySem.Spec PyProof.Rows L2
section
variable {X : Cx}
theorem one_sign {t : PySem.Str} (h : t.length = 1) : ∃ c, t = ⟨#[c]⟩ ∧ t.cps.getD 0 0 = c := by
  obtain ⟨a⟩ := t
  obtain ⟨l⟩ := a
  match l, h with
  | [c], _ => exact ⟨c, rfl, rfl⟩
  | [], h => exact absurd h (by decide)
  | _ :: _ :: _, h => exact absurd h (by simp [PySem.Str.length])
theorem op_ltP : OpR X (compareOp .Lt) (rC cmpLt) := by
  intro pins s σ H x y v u Q I rx ry ⟨da, db, b, hx, hy, e, q⟩
  unfold cmpLt at e
  split at e
  · cases e; cases (show x = _ from hx); cases (show y = _ from hy)
    exact op_lt pins s σ H _ _ v u Q I rx ry ⟨_, _, rfl, rfl, q⟩
  · cases e; cases (show x = _ from hx); cases (show y = _ from hy)
    exact op_lt_str pins s σ H _ _ v u Q I rx ry ⟨_, _, rfl, rfl, q⟩
  · cases e
theorem op_gtP : OpR X (compareOp .Gt) (rC fun a b => cmpLt b a) := by
  intro pins s σ H x y v u Q I rx ry ⟨da, db, b, hx, hy, e, q⟩
  simp only at e
  unfold cmpLt at e
  split at e
  · cases e; cases (show x = _ from hx); cases (show y = _ from hy)
    exact op_gt pins s σ H _ _ v u Q I rx ry ⟨_, _, rfl, rfl, q⟩
  · cases e; cases (show x = _ from hx); cases (show y = _ from hy)
    exact op_gt_str pins s σ H _ _ v u Q I rx ry ⟨_, _, rfl, rfl, q⟩
  · cases e
theorem le_not (i j : Int) : decide (i ≤ j) = !decide (j < i) := by
  by_cases h : i ≤ j
  · rw [decide_eq_true h, decide_eq_false (by omega)]; rfl
  · rw [decide_eq_false h, decide_eq_true (by omega)]; rfl
theorem op_leP : OpR X (compareOp .LtE) (rC fun a b => notO (cmpLt b a)) := by
  intro pins s σ H x y v u Q I rx ry ⟨da, db, b, hx, hy, e, q⟩
  simp only at e
  unfold cmpLt at e
  split at e
  · cases e; cases (show x = _ from hx); cases (show y = _ from hy)
    exact op_le pins s σ H _ _ v u Q I rx ry ⟨_, _, rfl, rfl, by show Q (.bl (decide _)) H; rw [le_not]; exact q⟩
  · cases e; cases (show x = _ from hx); cases (show y = _ from hy)
    exact op_le_str pins s σ H _ _ v u Q I rx ry ⟨_, _, rfl, rfl, q⟩
  · cases e
theorem op_geP : OpR X (compareOp .GtE) (rC fun a b => notO (cmpLt a b)) := by
  intro pins s σ H x y v u Q I rx ry ⟨da, db, b, hx, hy, e, q⟩
  simp only at e
  unfold cmpLt at e
  split at e
  · cases e; cases (show x = _ from hx); cases (show y = _ from hy)
    exact op_ge pins s σ H _ _ v u Q I rx ry ⟨_, _, rfl, rfl, by show Q (.bl (decide _)) H; rw [le_not]; exact q⟩
  · cases e; cases (show x = _ from hx); cases (show y = _ from hy)
    exact op_ge_str pins s σ H _ _ v u Q I rx ry ⟨_, _, rfl, rfl, q⟩
  · cases e
theorem room50 (z : Cz X) {m n : Nat} (h : decide (min m n ≤ 50) = true) : X.A.units + 1 + min m n < cLine := by
  have := z.un
  have := of_decide_eq_true h
  omega
theorem some_is {r : Option PyData} {o : Option V} {H : Hp} (h : (r = none ∧ o = none) ∨ ∃ d w, r = some d ∧ o = some w ∧ DR H d w) : o.isSome = r.isSome := by
  rcases h with ⟨a, b⟩ | ⟨d, w, a, b, _⟩ <;> rw [a, b] <;> rfl
theorem op_inP (z : Cz X) : OpR X (compareOp .In) (rC cmpIn) := by
  intro pins s σ H x y v u Q I rx ry ⟨da, db, b, hx, hy, e, q⟩
  have hu : X.A.units + 1 < cLine := by have := z.un; omega
  unfold cmpIn at e
  split at e
  · rename_i xs
    split at e
    · rename_i h
      cases e
      obtain ⟨h, h3⟩ := and_t h
      obtain ⟨h1, h2⟩ := and_t h
      obtain ⟨as, r1, _⟩ := DR.reads z I _ _ _ hx rx
      obtain ⟨bs, r2, _⟩ := DR.reads z I _ _ _ hy ry
      exact PySem.SeqAt.in_list_data r2 r1 h2 h1 (room50 z h3) (fin_bl I q rfl)
    · cases e
  · rename_i xs
    split at e
    · rename_i h
      cases e
      obtain ⟨h, h3⟩ := and_t h
      obtain ⟨h1, h2⟩ := and_t h
      obtain ⟨as, r1, _⟩ := DR.reads z I _ _ _ hx rx
      obtain ⟨bs, r2, _⟩ := DR.reads z I _ _ _ hy ry
      exact PySem.SeqAt.in_tuple_data r2 r1 h2 h1 (room50 z h3) (fin_bl I q rfl)
    · cases e
  · rename_i kvs
    split at e
    · rename_i h
      cases e
      obtain ⟨a, o, rfl, _, g, hr⟩ := dgot I hy hx h
      cases ry
      exact g_in hu I g rx fun s' I' => fin_bl I' q (some_is hr).symm
    · cases e
  · rename_i t
    split at e
    · rename_i t'
      split at e
      · rename_i hl
        cases e
        obtain ⟨c, rfl, ec⟩ := one_sign hl
        cases (show x = _ from hx); cases (show y = _ from hy)
        exact op_in_sign pins s σ H _ _ v u Q I rx ry ⟨c, _, rfl, rfl, q⟩
      · cases e
    · cases e
  · cases e
theorem op_notInP (z : Cz X) : OpR X (compareOp .NotIn) (rC fun a b => notO (cmpIn a b)) := by
  intro pins s σ H x y v u Q I rx ry ⟨da, db, b, hx, hy, e, q⟩
  have hu : X.A.units + 1 < cLine := by have := z.un; omega
  simp only at e
  unfold cmpIn at e
  split at e
  · rename_i xs
    split at e
    · rename_i h
      cases e
      obtain ⟨h, h3⟩ := and_t h
      obtain ⟨h1, h2⟩ := and_t h
      obtain ⟨as, r1, _⟩ := DR.reads z I _ _ _ hx rx
      obtain ⟨bs, r2, _⟩ := DR.reads z I _ _ _ hy ry
      exact PySem.SeqAt.notIn_list_data r2 r1 h2 h1 (room50 z h3) (fin_bl I q rfl)
    · cases e
  · rename_i xs
    split at e
    · rename_i h
      cases e
      obtain ⟨h, h3⟩ := and_t h
      obtain ⟨h1, h2⟩ := and_t h
      obtain ⟨as, r1, _⟩ := DR.reads z I _ _ _ hx rx
      obtain ⟨bs, r2, _⟩ := DR.reads z I _ _ _ hy ry
      exact PySem.SeqAt.notIn_tuple_data r2 r1 h2 h1 (room50 z h3) (fin_bl I q rfl)
    · cases e
  · rename_i kvs
    split at e
    · rename_i h
      cases e
      obtain ⟨a, o, rfl, _, g, hr⟩ := dgot I hy hx h
      cases ry
      exact g_notIn hu I g rx fun s' I' => fin_bl I' q (by rw [some_is hr])
    · cases e
  · rename_i t
    split at e
    · rename_i t'
      split at e
      · rename_i hl
        cases e
        obtain ⟨c, rfl, ec⟩ := one_sign hl
        cases (show x = _ from hx); cases (show y = _ from hy)
        exact op_notIn_sign pins s σ H _ _ v u Q I rx ry ⟨c, _, rfl, rfl, q⟩
      · cases e
    · cases e
  · cases e
theorem not_non {H : Hp} {d : PyData} {x : V} (h : DR H d x) (n : d ≠ .none) : x ≠ .non := by
  intro e
  subst e
  cases d with
  | none => exact n rfl
  | bool _ => exact nomatch (show V.non = V.bl _ from h)
  | int _ => exact nomatch (show V.non = V.int _ from h)
  | str _ => exact nomatch (show V.non = V.str _ from h)
  | list _ => obtain ⟨_, _, e, _⟩ := h; exact nomatch e
  | tuple _ => obtain ⟨_, _, e, _⟩ := h; exact nomatch e
  | dict _ => obtain ⟨_, e, _⟩ := h; exact nomatch e
theorem not_bl {H : Hp} {d : PyData} {x : V} (h : DR H d x) (n : ∀ b, d ≠ .bool b) : ∀ b, x ≠ .bl b := by
  intro b e
  subst e
  cases d with
  | none => exact nomatch (show V.bl b = V.non from h)
  | bool c => exact n c rfl
  | int _ => exact nomatch (show V.bl b = V.int _ from h)
  | str _ => exact nomatch (show V.bl b = V.str _ from h)
  | list _ => obtain ⟨_, _, e, _⟩ := h; exact nomatch e
  | tuple _ => obtain ⟨_, _, e, _⟩ := h; exact nomatch e
  | dict _ => obtain ⟨_, e, _⟩ := h; exact nomatch e
theorem cmpIs_non {d : PyData} {b : Bool} (e : cmpIs d .none = some b) {H : Hp} {x : V} (h : DR H d x) : decide (x = .non) = b := by
  cases d <;> first
    | (cases e; cases (show x = _ from h); rfl)
    | (cases e; exact decide_eq_false (not_non h (fun z => nomatch z)))
theorem vIs {H : Hp} {d : PyData} {x : V} {v : Value} {b : Bool} (h : DR H d x) (r : RelV x v) (n : ∀ b, d ≠ .bool b) : plainIs v (.bool b) = true ∧ v ≠ .bool b := by
  cases d with
  | none => cases (show x = _ from h); cases (show v = _ from r); exact ⟨rfl, fun z => nomatch z⟩
  | bool c => exact absurd rfl (n c)
  | int _ => cases (show x = _ from h); obtain ⟨t, rfl⟩ := (show ∃ t, v = Value.int _ t from r); exact ⟨rfl, fun z => nomatch z⟩
  | str _ => cases (show x = _ from h); obtain ⟨t, rfl⟩ := (show ∃ t, v = Value.str _ t from r); exact ⟨rfl, fun z => nomatch z⟩
  | list _ => obtain ⟨a, _, rfl, _⟩ := h; cases r; exact ⟨rfl, fun z => nomatch z⟩
  | tuple _ => obtain ⟨a, _, rfl, _⟩ := h; cases r; exact ⟨rfl, fun z => nomatch z⟩
  | dict _ => obtain ⟨a, rfl, _⟩ := h; cases r; exact ⟨rfl, fun z => nomatch z⟩
theorem cmpIs_bl {d : PyData} {b c : Bool} (e : cmpIs d (.bool c) = some b) : (∃ a, d = .bool a ∧ b = (a == c)) ∨ ((∀ a, d ≠ .bool a) ∧ b = false) := by
  cases d <;> cases e <;> first
    | exact .inl ⟨_, rfl, rfl⟩
    | exact .inr ⟨fun _ z => (nomatch z), rfl⟩
theorem op_isP : OpR X (compareOp .Is) (rC cmpIs) := by
  intro pins s σ H x y v u Q I rx ry ⟨da, db, b, hx, hy, e, q⟩
  cases db with
  | none => 
    cases (show y = _ from hy)
    exact op_isN pins s σ H x _ v u Q I rx ry ⟨rfl, by rw [cmpIs_non e hx]; exact q⟩
  | bool c =>
    cases (show y = _ from hy)
    rcases cmpIs_bl e with ⟨a, rfl, rfl⟩ | ⟨n, rfl⟩
    · cases (show x = _ from hx)
      exact op_isBl pins s σ H _ _ v u Q I rx ry ⟨a, c, rfl, rfl, q⟩
    · cases (show u = _ from ry)
      obtain ⟨p, ne⟩ := vIs (b := c) hx rx n
      exact wpAny_is_other p ne ⟨.bl false, H, I, rfl, q⟩
  | int _ => cases e
  | str _ => cases e
  | list _ => cases e
  | tuple _ => cases e
  | dict _ => cases e
theorem op_isNotP : OpR X (compareOp .IsNot) (rC fun a b => notO (cmpIs a b)) := by
  intro pins s σ H x y v u Q I rx ry ⟨da, db, b, hx, hy, e, q⟩
  simp only at e
  cases e0 : cmpIs da db with
  | none => rw [e0] at e; cases e
  | some b' =>
  rw [e0] at e
  cases e
  cases db with
  | none => 
    cases (show y = _ from hy)
    exact op_notN pins s σ H x _ v u Q I rx ry ⟨rfl, by rw [cmpIs_non e0 hx]; exact q⟩
  | bool c =>
    cases (show y = _ from hy)
    rcases cmpIs_bl e0 with ⟨a, rfl, rfl⟩ | ⟨n, rfl⟩
    · cases (show x = _ from hx)
      exact op_notBl pins s σ H _ _ v u Q I rx ry ⟨a, c, rfl, rfl, q⟩
    · cases (show u = _ from ry)
      obtain ⟨p, ne⟩ := vIs (b := c) hx rx n
      exact wpAny_isNot_other p ne ⟨.bl true, H, I, rfl, q⟩
  | int _ => cases e0
  | str _ => cases e0
  | list _ => cases e0
  | tuple _ => cases e0
  | dict _ => cases e0
theorem op_cmp (z : Cz X) : ∀ op : CmpOp, OpR X (compareOp op) (rC (cmpOp op))
  | .Eq => op_eqP z
  | .NotEq => op_neP z
  | .Lt => op_ltP
  | .Gt => op_gtP
  | .LtE => op_leP
  | .GtE => op_geP
  | .In => op_inP z
  | .NotIn => op_notInP z
  | .Is => op_isP
  | .IsNot => op_isNotP
end
end PD
end
section
/-! PD7: sums, products. -/
namespace PD
open PySem PySem.Spec PyProof.Rows L2
/-- two values whose items are shared, a new value -/
def rN (f : PyData → PyData → Option Vl) : R2 := fun x y H Q => ∃ F dx dy v, FOk F H ∧ DK F H dx x ∧ DK F H dy y ∧ f dx dy = some v ∧ Nw F H v Q
section
variable {X : Cx} {pins : List (Addr × Obj)} {σ : L2.St} {H : Hp} {s : Shared}
theorem Nw.int {F H : Hp} {i : Int} {Q : V → Hp → Prop} (h : Nw F H (0, .int i) Q) (fk : FOk F H) : Q (.int i) H := h.imm fk (x := .int i) rfl rfl
theorem Nw.bl {F H : Hp} {i : Bool} {Q : V → Hp → Prop} (h : Nw F H (0, .bool i) Q) (fk : FOk F H) : Q (.bl i) H := h.imm fk (x := .bl i) rfl rfl
theorem Nw.str {F H : Hp} {i : PySem.Str} {Q : V → Hp → Prop} (h : Nw F H (0, .str i) Q) (fk : FOk F H) : Q (.str i) H := h.imm fk (x := .str i) rfl rfl
theorem Fzs.len {F : Hp} : ∀ {xs : List PyData} {vs : List V}, Fzs F xs vs → vs.length = xs.length
  | [], _, h => by cases (show _ = [] from h); rfl
  | x :: xs, _, ⟨v, r, e, a, b⟩ => by rw [e]; simp [Fzs.len b]
theorem Fzs.app {F : Hp} : ∀ {xs ys : List PyData} {vs ws : List V}, Fzs F xs vs → Fzs F ys ws → Fzs F (xs ++ ys) (vs ++ ws)
  | [], _, _, _, h, h' => by cases (show _ = [] from h); exact h'
  | x :: xs, _, _, _, ⟨v, r, e, a, b⟩, h' => by rw [e]; exact ⟨v, r ++ _, rfl, a, Fzs.app b h'⟩
theorem Fzs.rep {F : Hp} {xs : List PyData} {vs : List V} (h : Fzs F xs vs) : ∀ n : Nat, Fzs F (List.replicate n xs).flatten (List.replicate n vs).flatten
  | 0 => rfl
  | n + 1 => by
    rw [List.replicate_succ, List.replicate_succ, List.flatten_cons, List.flatten_cons]
    exact Fzs.app h (Fzs.rep h n)
theorem op_addP : OpR X (binaryOp .Add) (rN addOp) := by
  intro pins s σ H x y v u Q I rx ry ⟨F, da, db, w, fk, hx, hy, e, q⟩
  unfold addOp at e
  split at e
  · cases e; cases (show x = _ from hx); cases (show y = _ from hy)
    exact op_add pins s σ H _ _ v u Q I rx ry ⟨_, _, rfl, rfl, q.int fk⟩
  · split at e
    · rename_i hl
      cases e; cases (show x = _ from hx); cases (show y = _ from hy)
      exact op_add_str pins s σ H _ _ v u Q I rx ry ⟨_, _, rfl, rfl, hl, q.str fk⟩
    · cases e
  · split at e
    · rename_i hl
      cases e
      obtain ⟨a, vs, rfl, ha, fa⟩ := hx
      obtain ⟨b, ws, rfl, hb, fb⟩ := hy
      cases rx
      cases ry
      obtain ⟨z1, its, n, r1, e1⟩ := (show ObjOk X.prog X.w H s.heap a (.lst vs) from ha.ok I.hok)
      obtain ⟨z2, its2, n2, r2, e2⟩ := (show ObjOk X.prog X.w H s.heap b (.lst ws) from hb.ok I.hok)
      have l1 := r1.length
      have l2 := r2.length
      have m1 := fa.len
      have m2 := fb.len
      refine PySem.P.add_list e1 e2 ?_ (by rw [List.size_toArray, List.size_toArray]; omega)
      rw [List.append_toArray]
      exact ⟨.ref _, _, I.lnew (t' := s.toks) (r1.append r2) (by rw [List.length_append]; omega), rfl, q.list fk (Fzs.app fa fb) _ I.fresh⟩
    · cases e
  · split at e
    · rename_i xs ys hl
      cases e
      obtain ⟨hne, hl⟩ := and_t hl
      have hl := of_decide_eq_true hl
      obtain ⟨a, vs, rfl, ha, fa⟩ := hx
      obtain ⟨b, ws, rfl, hb, fb⟩ := hy
      have m1 := fa.len
      have m2 := fb.len
      refine op_catT pins s σ H _ _ v u Q I rx ry ⟨a, b, vs, ws, rfl, rfl, .of (show H a = _ from ?_), .of ?_, fun z => ?_, by omega, fun z => ?_, fun z => q.tuple fk (Fzs.app fa fb)⟩
      · exact fk _ _ ha
      · exact fk _ _ hb
      · subst z
        cases xs with
        | nil => cases hne
        | cons _ _ => cases m1
      · subst z
        cases ys with
        | cons _ _ => cases m2
        | nil => exact q.fz fk (x := .ref a) ⟨a, vs, rfl, ha, by rw [List.append_nil]; exact fa⟩
    · cases e
  · cases e
theorem mul_w {i j : Int} (h : mulOk i j = true) : CMulW i j := by
  have h' : i.natAbs.log2 + j.natAbs.log2 < 1000000 := of_decide_eq_true h
  exact h'
theorem mul_ok {i j : Int} (h : mulOk i j = true) : IntMulOk i j := (mul_w h).ok
theorem op_numP (op : Operator) : OpR X (binaryOp op) (rN (numOp op)) := by
  intro pins s σ H x y v u Q I rx ry ⟨F, da, db, w, fk, hx, hy, e, q⟩
  unfold numOp at e
  split at e
  · rename_i i j
    cases (show x = _ from hx); cases (show y = _ from hy)
    split at e
    · cases e
      exact op_sub pins s σ H _ _ v u Q I rx ry ⟨_, _, rfl, rfl, q.int fk⟩
    · split at e
      · rename_i hc
        cases e
        exact op_mulW pins s σ H _ _ v u Q I rx ry ⟨_, _, rfl, rfl, mul_w hc, q.int fk⟩
      · cases e
    · split at e
      · rename_i hc
        cases e
        obtain ⟨h1, h2⟩ := and_t hc
        exact op_fdivW pins s σ H _ _ v u Q I rx ry ⟨_, _, rfl, rfl, ⟨of_decide_eq_true h1, of_decide_eq_true h2⟩, q.int fk⟩
      · cases e
    · split at e
      · rename_i hc
        cases e
        exact op_mod pins s σ H _ _ v u Q I rx ry ⟨_, _, rfl, rfl, of_decide_eq_true hc, q.int fk⟩
      · cases e
    · split at e
      · rename_i hc
        cases e
        obtain ⟨h1, h2⟩ := and_t hc
        obtain ⟨t, rfl⟩ := rx
        obtain ⟨t', rfl⟩ := ry
        exact PyProof.Rows.pow_int (of_decide_eq_true h1) (of_decide_eq_true h2) ⟨.int _, H, I.tok _, ⟨_, rfl⟩, q.int fk⟩
      · cases e
    · cases e
  · cases e
theorem iop_numP (op : Operator) : OpR X (inplaceOp op) (rN (augOp op)) := by
  intro pins s σ H x y v u Q I rx ry ⟨F, da, db, w, fk, hx, hy, e, q⟩
  unfold augOp at e
  split at e
  · rename_i i j
    cases (show x = _ from hx); cases (show y = _ from hy)
    split at e
    · rename_i ho
      subst ho
      cases e
      exact iop_add pins s σ H _ _ v u Q I rx ry ⟨_, _, rfl, rfl, q.int fk⟩
    · unfold numOp at e
      simp only at e
      split at e
      · cases e
        exact iop_sub pins s σ H _ _ v u Q I rx ry ⟨_, _, rfl, rfl, q.int fk⟩
      · split at e
        · rename_i hc
          cases e
          obtain ⟨t, rfl⟩ := rx
          obtain ⟨t', rfl⟩ := ry
          exact PyProof.Rows.imul_int ⟨.int _, H, I.tok _, ⟨_, rfl⟩, q.int fk⟩ (mul_ok hc)
        · cases e
      · split at e
        · rename_i hc
          cases e
          obtain ⟨h1, h2⟩ := and_t hc
          have h1 := of_decide_eq_true h1
          obtain ⟨t, rfl⟩ := rx
          obtain ⟨t', rfl⟩ := ry
          exact PyProof.Rows.ifloordiv_int (by omega) (by rw [Int.fdiv_eq_ediv_of_nonneg i (by omega)]; exact ⟨.int _, H, I.tok _, ⟨_, rfl⟩, q.int fk⟩) (.inl (PyProof.noPylong_of_log2 (of_decide_eq_true h2)))
        · cases e
      · split at e
        · rename_i hc
          cases e
          exact iop_mod pins s σ H _ _ v u Q I rx ry ⟨_, _, rfl, rfl, of_decide_eq_true hc, q.int fk⟩
        · cases e
      · split at e
        · rename_i hc
          cases e
          obtain ⟨h1, h2⟩ := and_t hc
          obtain ⟨t, rfl⟩ := rx
          obtain ⟨t', rfl⟩ := ry
          exact PyProof.Rows.ipow_int (of_decide_eq_true h1) (of_decide_eq_true h2) ⟨.int _, H, I.tok _, ⟨_, rfl⟩, q.int fk⟩
        · cases e
      · cases e
  · cases e
theorem op_repP : OpR X (binaryOp .Mult) (rN repOp) := by
  intro pins s σ H x y v u Q I rx ry ⟨F, da, db, w, fk, hx, hy, e, q⟩
  unfold repOp at e
  split at e
  · rename_i xs k
    split at e
    · rename_i hc
      cases e
      obtain ⟨h, h3⟩ := and_t hc
      obtain ⟨h1, h2⟩ := and_t h
      have h1 := of_decide_eq_true h1
      have h2 := of_decide_eq_true h2
      have h3 := of_decide_eq_true h3
      obtain ⟨l, vs, rfl, hl, fl⟩ := hx
      cases (show y = _ from hy)
      cases rx
      obtain ⟨t, rfl⟩ := ry
      obtain ⟨z, its, n, r, e⟩ := (show ObjOk X.prog X.w H s.heap l (.lst vs) from hl.ok I.hok)
      have m1 := r.length
      have m2 := fl.len
      have hlen : its.toArray.size * k.toNat ≤ sizeLine := by rw [List.size_toArray, ← m1, m2]; exact h3
      have big : (sizeLine : Nat) ≤ (2 ^ 63 - 1) / 8 := by decide
      have no1 : ¬ (!Builtin.List.listFitsIndex k) = true := by rw [fitsIndex_both (by omega) (by omega)]; decide
      have no2 : ¬ Builtin.List.listTooLong (its.toArray.size * k.toNat) = true := by rw [notLongL hlen]; decide
      have fold : ∀ m : Nat, List.foldl (fun p q => p ++ q) #[] (List.replicate m its.toArray) = (List.replicate m its).flatten.toArray := fun m => by
        have q := foldl_rep its m []
        simp only [List.nil_append] at q
        exact q
      have hnew : List.foldl (fun p q => p ++ q) #[] (List.replicate (if its.toArray.isEmpty = true then 0 else k.toNat) its.toArray) = (List.replicate k.toNat its).flatten.toArray := by
        rw [fold]
        cases its with
        | nil => simp
        | cons _ _ => rw [if_neg (by simp)]
      have mul := PySem.F.args_list_mul_2
      refine wpAny_binaryOp_repeat_ref (T := "list") (U := "int") (by decide) ⟨_, e, rfl⟩ (fun s' => typeIs_int s' k t) noFill_list_mul PySem.F.fills_int_mul PySem.F.slot_int_rmul repeat_list PySem.F.slot_int_index.lookup ?_
      refine call_meets PySem.F.slot_int_rmul (typeIs_int s k t) PySem.F.entry_int_rmul (PySem.F.args_int_rmul_2 _ _) (int___rmul___int_list k t l its.toArray n) ⟨e, rfl, ⟨_, e, rfl⟩, ?_⟩
      refine call_meets PySem.F.slot_list_mul ⟨_, e, rfl⟩ PySem.F.entry_list_mul (mul _ _) (AutoListH.list___mul___list_int_3 l its.toArray n k t no1 (by omega) no2) ⟨e, ?_⟩
      rw [hnew]
      refine ⟨.ref _, _, I.lnew (t' := s.toks) (r.rep k.toNat) ?_, rfl, q.list fk (Fzs.rep fl k.toNat) _ I.fresh⟩
      rw [PyProof.Rows.lm_len_rep_flat, Nat.mul_comm, m2]
      exact h3
    · cases e
  · cases e
theorem op_numAll (op : Operator) : OpR X (binaryOp op) (rN (numAll op)) := by
  intro pins s σ H x y v u Q I rx ry ⟨F, da, db, w, fk, hx, hy, e, q⟩
  unfold numAll at e
  split at e
  · rename_i h
    cases e
    exact op_numP op pins s σ H x y v u Q I rx ry ⟨F, da, db, _, fk, hx, hy, h, q⟩
  · split at e
    · rename_i ho
      subst ho
      exact op_repP pins s σ H x y v u Q I rx ry ⟨F, da, db, _, fk, hx, hy, e, q⟩
    · cases e
end
end PD
end
section
/-! PD8: built-ins that look. -/
namespace PD
open PySem PySem.Spec PyProof.Rows L2
section
variable {X : Cx} {pins : List (Addr × Obj)} {σ : L2.St} {H : Hp} {s : Shared}
/-! ### isinstance -/
def tyName : PyData → String
  | .none => "NoneType"
  | .bool _ => "bool"
  | .int _ => "int"
  | .str _ => "str"
  | .list _ => "list"
  | .tuple _ => "tuple"
  | .dict _ => "dict"
theorem kt_int : ∀ d : PyData, kitB (tyName d) "int" = some d.isInt
  | .none => (by decide +kernel : kitB "NoneType" "int" = some false)
  | .bool _ => (by decide +kernel : kitB "bool" "int" = some true)
  | .int _ => (by decide +kernel : kitB "int" "int" = some true)
  | .str _ => (by decide +kernel : kitB "str" "int" = some false)
  | .list _ => (by decide +kernel : kitB "list" "int" = some false)
  | .tuple _ => (by decide +kernel : kitB "tuple" "int" = some false)
  | .dict _ => (by decide +kernel : kitB "dict" "int" = some false)
theorem kt_bool : ∀ d : PyData, kitB (tyName d) "bool" = some d.isBool
  | .none => (by decide +kernel : kitB "NoneType" "bool" = some false)
  | .bool _ => (by decide +kernel : kitB "bool" "bool" = some true)
  | .int _ => (by decide +kernel : kitB "int" "bool" = some false)
  | .str _ => (by decide +kernel : kitB "str" "bool" = some false)
  | .list _ => (by decide +kernel : kitB "list" "bool" = some false)
  | .tuple _ => (by decide +kernel : kitB "tuple" "bool" = some false)
  | .dict _ => (by decide +kernel : kitB "dict" "bool" = some false)
theorem kt_str : ∀ d : PyData, kitB (tyName d) "str" = some d.isStr
  | .none => (by decide +kernel : kitB "NoneType" "str" = some false)
  | .bool _ => (by decide +kernel : kitB "bool" "str" = some false)
  | .int _ => (by decide +kernel : kitB "int" "str" = some false)
  | .str _ => (by decide +kernel : kitB "str" "str" = some true)
  | .list _ => (by decide +kernel : kitB "list" "str" = some false)
  | .tuple _ => (by decide +kernel : kitB "tuple" "str" = some false)
  | .dict _ => (by decide +kernel : kitB "dict" "str" = some false)
theorem kt_list : ∀ d : PyData, kitB (tyName d) "list" = some d.isList
  | .none => (by decide +kernel : kitB "NoneType" "list" = some false)
  | .bool _ => (by decide +kernel : kitB "bool" "list" = some false)
  | .int _ => (by decide +kernel : kitB "int" "list" = some false)
  | .str _ => (by decide +kernel : kitB "str" "list" = some false)
  | .list _ => (by decide +kernel : kitB "list" "list" = some true)
  | .tuple _ => (by decide +kernel : kitB "tuple" "list" = some false)
  | .dict _ => (by decide +kernel : kitB "dict" "list" = some false)
theorem kt_tuple : ∀ d : PyData, kitB (tyName d) "tuple" = some d.isTuple
  | .none => (by decide +kernel : kitB "NoneType" "tuple" = some false)
  | .bool _ => (by decide +kernel : kitB "bool" "tuple" = some false)
  | .int _ => (by decide +kernel : kitB "int" "tuple" = some false)
  | .str _ => (by decide +kernel : kitB "str" "tuple" = some false)
  | .list _ => (by decide +kernel : kitB "list" "tuple" = some false)
  | .tuple _ => (by decide +kernel : kitB "tuple" "tuple" = some true)
  | .dict _ => (by decide +kernel : kitB "dict" "tuple" = some false)
theorem kt_dict : ∀ d : PyData, kitB (tyName d) "dict" = some d.isDict
  | .none => (by decide +kernel : kitB "NoneType" "dict" = some false)
  | .bool _ => (by decide +kernel : kitB "bool" "dict" = some false)
  | .int _ => (by decide +kernel : kitB "int" "dict" = some false)
  | .str _ => (by decide +kernel : kitB "str" "dict" = some false)
  | .list _ => (by decide +kernel : kitB "list" "dict" = some false)
  | .tuple _ => (by decide +kernel : kitB "tuple" "dict" = some false)
  | .dict _ => (by decide +kernel : kitB "dict" "dict" = some true)
theorem isTy_kit {T : PySem.Str} {d : PyData} {b : Bool} (h : isTy T d = some b) : ∃ n : String, bootBuiltins T = some (.type n) ∧ T ≠ "__name__" ∧ (T == ("__debug__" : PySem.Str)) = false ∧ kitB (tyName d) n = some b := by
  unfold isTy at h
  split at h
  · rename_i e; subst e; cases h; exact ⟨"int", by decide +kernel, by decide +kernel, by decide +kernel, kt_int d⟩
  split at h
  · rename_i e; subst e; cases h; exact ⟨"bool", by decide +kernel, by decide +kernel, by decide +kernel, kt_bool d⟩
  split at h
  · rename_i e; subst e; cases h; exact ⟨"str", by decide +kernel, by decide +kernel, by decide +kernel, kt_str d⟩
  split at h
  · rename_i e; subst e; cases h; exact ⟨"list", by decide +kernel, by decide +kernel, by decide +kernel, kt_list d⟩
  split at h
  · rename_i e; subst e; cases h; exact ⟨"tuple", by decide +kernel, by decide +kernel, by decide +kernel, kt_tuple d⟩
  split at h
  · rename_i e; subst e; cases h; exact ⟨"dict", by decide +kernel, by decide +kernel, by decide +kernel, kt_dict d⟩
  cases h
theorem kitD (I : Inv X pins σ H s) : ∀ {d : PyData} {x : V} {u : Value}, DR H d x → RelV x u → ∃ P : Heap → Prop, PySem.W.KitX X.K u (.type (tyName d)) P ∧ P s.heap ∧ u ≠ .builtin "__main__.__loader__#opaque"
  | .none, _, _, h, r => by cases (show _ = V.non from h); cases (show _ = Value.none from r); exact ⟨_, PySem.W.kitx_none, True.intro, fun z => nomatch z⟩
  | .bool y, _, _, h, r => by cases (show _ = V.bl y from h); cases (show _ = Value.bool y from r); exact ⟨_, PySem.W.kitx_bool, True.intro, fun z => nomatch z⟩
  | .int i, _, _, h, r => by cases (show _ = V.int i from h); obtain ⟨t, q⟩ := (show ∃ t, _ = Value.int i t from r); cases q; exact ⟨_, PySem.W.kitx_int, True.intro, fun z => nomatch z⟩
  | .str y, _, _, h, r => by cases (show _ = V.str y from h); obtain ⟨t, q⟩ := (show ∃ t, _ = Value.str y t from r); cases q; exact ⟨_, PySem.W.kitx_str, True.intro, fun z => nomatch z⟩
  | .list xs, _, _, ⟨a, vs, e, h1, _⟩, r => by
    subst e
    cases (show _ = Value.ref a from r)
    obtain ⟨its, _, ⟨o, _, n, k, _⟩, _⟩ := I.list (.inl h1)
    exact ⟨_, PySem.W.kitx_list, ⟨o, n, k⟩, fun z => nomatch z⟩
  | .tuple xs, _, _, ⟨a, vs, e, h1, _⟩, r => by
    subst e
    cases (show _ = Value.ref a from r)
    obtain ⟨its, _, ⟨o, n, k, _⟩, _⟩ := I.tuple (.inl (.inl h1))
    exact ⟨_, PySem.W.kitx_tuple, ⟨o, n, k⟩, fun z => nomatch z⟩
  | .dict kvs, _, _, ⟨a, e, h⟩, r => by
    subst e
    cases (show _ = Value.ref a from r)
    rcases h with ⟨ks, h1, _⟩ | ⟨ks, h1, _⟩
    · obtain ⟨_, _, _, _, o, _, _, g, ex, _⟩ := dk_rd I.hok h1
      exact ⟨_, PySem.W.kitx_dict, ⟨o, g, ex.1⟩, fun z => nomatch z⟩
    · obtain ⟨_, _, _, _, o, _, _, g, ex, _⟩ := dt_rd I.hok h1
      exact ⟨_, PySem.W.kitx_dict, ⟨o, g, ex.1⟩, fun z => nomatch z⟩
def tyVals : List PySem.Str → List V → List Value → Prop
  | [], cs, us => cs = [] ∧ us = []
  | T :: Ts, cs, us => ∃ (n : String) (c : List V) (w : List Value), bootBuiltins T = some (.type n) ∧ cs = .ty n :: c ∧ us = .type n :: w ∧ tyVals Ts c w
theorem tyVals_eq : ∀ {Ts : List PySem.Str} {cs : List V} {us ws : List Value}, tyVals Ts cs us → Vals cs ws → ws = us
  | [], _, _, _, ⟨a, b⟩, r => by subst a b; cases r; rfl
  | T :: Ts, _, _, _, ⟨n, c, w, _, a, b, t⟩, r => by
    subst a b
    cases r with
    | cons r1 r2 => rw [show _ = Value.type n from r1, tyVals_eq t r2]
theorem tyVals_kit {K : PySem.W.Frag} {d : PyData} : ∀ {Ts : List PySem.Str} {cs : List V} {us : List Value} {b : Bool}, tyVals Ts cs us → isTys Ts d = some b → PySem.W.kitAny K (.type (tyName d)) us = some b
  | [], _, _, _, ⟨a, b⟩, h => by subst a b; cases h; rfl
  | T :: Ts, _, _, b, ⟨n, c, w, hn, e1, e2, t⟩, h => by
    subst e1 e2
    unfold isTys at h
    cases e : isTy T d with
    | none => rw [e] at h; cases h
    | some b' =>
      rw [e] at h
      obtain ⟨n', hn', _, _, hk⟩ := isTy_kit e
      rw [hn] at hn'
      cases hn'
      cases b' with
      | true => cases h; exact kitAny_cons (kit_ty hk) (fun z => nomatch z) fun _ => rfl
      | false => exact kitAny_cons (kit_ty hk) (fun _ => tyVals_kit t h) fun z => nomatch z
/-- isinstance(x, T), isinstance(x, (T, ..)) -/
def rIs1 (T : PySem.Str) : List V → Hp → VK → Prop := fun xs H Q => ∃ x d n b, xs = [x, .ty n] ∧ bootBuiltins T = some (.type n) ∧ DR H d x ∧ isTys [T] d = some b ∧ Q (.bl b) H
def rIsM (Ts : List PySem.Str) : List V → Hp → VK → Prop := fun xs H Q => ∃ x d tp cs us b, xs = [x, .ref tp] ∧ H tp = some (.tup cs) ∧ tyVals Ts cs us ∧ DR H d x ∧ isTys Ts d = some b ∧ Q (.bl b) H
theorem isTys_one {T : PySem.Str} {d : PyData} {b : Bool} (h : isTys [T] d = some b) : isTy T d = some b := by
  unfold isTys at h
  cases e : isTy T d with
  | none => rw [e] at h; cases h
  | some b' =>
    rw [e] at h
    cases b' with
    | true => exact h
    | false => exact h
theorem call_is1 (T : PySem.Str) : CallR X (.builtin "isinstance") (rIs1 T) := by
  intro pins s σ H xs us Q I r ⟨x, d, n, b, e, hn, hd, hi, q⟩
  subst e
  obtain ⟨u1, u2, rfl, r1, r2⟩ := vals2 r
  cases (show u2 = Value.type n from r2)
  obtain ⟨n', hn', _, _, hk⟩ := isTy_kit (isTys_one hi)
  rw [hn] at hn'
  cases hn'
  obtain ⟨P, Z, p, hx⟩ := kitD I hd r1
  exact PySem.W.kia_one Z I.kIn p (kit_ty hk) hx fun tk => ⟨.bl b, H, I.tok tk, rfl, q⟩
theorem call_isM (Ts : List PySem.Str) : CallR X (.builtin "isinstance") (rIsM Ts) := by
  intro pins s σ H xs us Q I r ⟨x, d, tp, cs, ws, b, e, hT, ht, hd, hi, q⟩
  subst e
  obtain ⟨u1, u2, rfl, r1, r2⟩ := vals2 r
  cases (show u2 = Value.ref tp from r2)
  obtain ⟨P, Z, p, hx⟩ := kitD I hd r1
  obtain ⟨_, its, rv, o, h1, h2, n, h3⟩ := (show ObjOk X.prog X.w H s.heap tp (.tup cs) from I.hok tp _ hT)
  have e3 := tyVals_eq ht rv
  subst e3
  obtain ⟨oc, od, dt, sl⟩ := o
  simp only at h2 h3
  subst h2 h3
  exact PySem.W.kia_tup Z I.kIn p h1 (tyVals_kit ht hi) hx fun tk => ⟨.bl b, H, I.tok tk, rfl, q⟩

/-! ### those that look at one thing -/
def rL (f : PyData → Option Vl) : List V → Hp → VK → Prop := fun xs H Q => ∃ F x d w, xs = [x] ∧ FOk F H ∧ DR H d x ∧ f d = some w ∧ Nw F H w Q
def rL2 (f : PyData → PyData → Option Vl) : List V → Hp → VK → Prop := fun xs H Q => ∃ F x y d e w, xs = [x, y] ∧ FOk F H ∧ DR H d x ∧ DR H e y ∧ f d e = some w ∧ Nw F H w Q
theorem DRs.len {H : Hp} : ∀ {xs : List PyData} {vs : List V}, DRs H xs vs → vs.length = xs.length
  | [], _, h => by cases (show _ = [] from h); rfl
  | x :: xs, _, ⟨v, r, e, a, b⟩ => by rw [e]; simp [DRs.len b]
theorem DRK.len {H : Hp} : ∀ {xs : List (PyData × PyData)} {vs : List (Key × V)}, DRK H xs vs → vs.length = xs.length
  | [], _, h => by cases (show _ = [] from h); rfl
  | (k, x) :: xs, _, ⟨q, v, r, e, ek, a, b⟩ => by rw [e]; simp [DRK.len b]
theorem DRT.len {H : Hp} : ∀ {xs : List (PyData × PyData)} {vs : List (List Key × V)}, DRT H xs vs → vs.length = xs.length
  | [], _, h => by cases (show _ = [] from h); rfl
  | (k, x) :: xs, _, ⟨q, v, r, e, ek, a, b⟩ => by rw [e]; simp [DRT.len b]
theorem all_ints {H : Hp} : ∀ {xs : List PyData} {vs : List V} {ns : List Int}, DRs H xs vs → allInts xs = some ns → vs = ns.map V.int
  | [], _, _, h, e => by cases (show _ = [] from h); cases e; rfl
  | .int i :: xs, _, ns, ⟨v, r, e, a, b⟩, h => by
    unfold allInts at h
    cases q : allInts xs with
    | none => rw [q] at h; cases h
    | some bs =>
      rw [q] at h
      cases h
      rw [e, show v = V.int i from a, all_ints b q]
      rfl
  | .none :: _, _, _, _, h => by cases h
  | .bool _ :: _, _, _, _, h => by cases h
  | .str _ :: _, _, _, _, h => by cases h
  | .list _ :: _, _, _, _, h => by cases h
  | .tuple _ :: _, _, _, _, h => by cases h
  | .dict _ :: _, _, _, _, h => by cases h
theorem all_bools {H : Hp} : ∀ {xs : List PyData} {vs : List V} {ns : List Bool}, DRs H xs vs → allBools xs = some ns → vs = ns.map V.bl
  | [], _, _, h, e => by cases (show _ = [] from h); cases e; rfl
  | .bool i :: xs, _, ns, ⟨v, r, e, a, b⟩, h => by
    unfold allBools at h
    cases q : allBools xs with
    | none => rw [q] at h; cases h
    | some bs =>
      rw [q] at h
      cases h
      rw [e, show v = V.bl i from a, all_bools b q]
      rfl
  | .none :: _, _, _, _, h => by cases h
  | .int _ :: _, _, _, _, h => by cases h
  | .str _ :: _, _, _, _, h => by cases h
  | .list _ :: _, _, _, _, h => by cases h
  | .tuple _ :: _, _, _, _, h => by cases h
  | .dict _ :: _, _, _, _, h => by cases h
theorem call_lenP : CallR X (.builtin "len") (rL (bi1 "len")) := by
  intro pins s σ H xs us Q I r ⟨F, x, d, w, e, fk, hd, hf, q⟩
  subst e
  unfold bi1 at hf
  rw [if_pos rfl] at hf
  have l63 := line63
  have hs : sizeLine = 16777216 := sizeLine_eq
  split at hf
  · cases hf
    obtain ⟨a, vs, rfl, h1, h2⟩ := hd
    refine call_len pins s σ H _ us Q I r ⟨_, vs.length, rfl, .inl ⟨vs, .inl h1, rfl⟩, ?_⟩
    rw [h2.len]
    exact q.int fk
  · cases hf
    obtain ⟨a, vs, rfl, h1, h2⟩ := hd
    refine call_len pins s σ H _ us Q I r ⟨_, vs.length, rfl, .inr ⟨vs, .of h1, rfl⟩, ?_⟩
    rw [h2.len]
    exact q.int fk
  · cases hf
    obtain ⟨u, rfl, rx⟩ := vals1 r
    obtain ⟨a, rfl, ⟨ks, h1, h2⟩ | ⟨ks, h1, h2⟩⟩ := hd
    · cases (show u = Value.ref a from rx)
      obtain ⟨z, hd, vs, kv, dd⟩ := dk_rd I.hok h1
      have l := kv.length
      have m := h2.len
      have q' := q.int fk
      rw [← m, l] at q'
      exact PySem.call_len_dict hd dd (by omega) ⟨.int _, H, I.tok _, ⟨_, rfl⟩, q'⟩
    · cases (show u = Value.ref a from rx)
      obtain ⟨z, hd, vs, kv, dd⟩ := dt_rd I.hok h1
      have l := Paired.length kv
      have m := h2.len
      have q' := q.int fk
      rw [← m, l] at q'
      exact PySem.call_len_dictH hd dd (by omega) ⟨.int _, H, I.tok _, ⟨_, rfl⟩, q'⟩
  · split at hf
    · rename_i hl
      cases hf
      cases (show x = _ from hd)
      exact call_len pins s σ H _ us Q I r ⟨_, _, rfl, ⟨hl, rfl⟩, q.int fk⟩
    · cases hf
  · cases hf
theorem call_allP (hc : X.calm = true) : CallR X (.builtin "all") (rL (bi1 "all")) := by
  intro pins s σ H xs us Q I r ⟨F, x, d, w, e, fk, hd, hf, q⟩
  subst e
  unfold bi1 at hf
  rw [if_neg (by decide), if_pos rfl] at hf
  split at hf
  · split at hf
    · rename_i bs hb
      cases hf
      obtain ⟨a, vs, rfl, h1, h2⟩ := hd
      have e := all_bools h2 hb
      subst e
      exact cr_all hc pins s σ H _ us Q I r ⟨a, bs, rfl, .inl h1, q.bl fk⟩
    · cases hf
  · cases hf
theorem call_anyP (hc : X.calm = true) : CallR X (.builtin "any") (rL (bi1 "any")) := by
  intro pins s σ H xs us Q I r ⟨F, x, d, w, e, fk, hd, hf, q⟩
  subst e
  unfold bi1 at hf
  rw [if_neg (by decide), if_neg (by decide), if_pos rfl] at hf
  split at hf
  · split at hf
    · rename_i bs hb
      cases hf
      obtain ⟨a, vs, rfl, h1, h2⟩ := hd
      have e := all_bools h2 hb
      subst e
      exact cr_any hc pins s σ H _ us Q I r ⟨a, bs, rfl, .inl h1, q.bl fk⟩
    · cases hf
  · cases hf
theorem call_sumP (hc : X.calm = true) : CallR X (.builtin "sum") (rL (bi1 "sum")) := by
  intro pins s σ H xs us Q I r ⟨F, x, d, w, e, fk, hd, hf, q⟩
  subst e
  unfold bi1 at hf
  rw [if_neg (by decide), if_neg (by decide), if_neg (by decide), if_pos rfl] at hf
  split at hf
  · split at hf
    · rename_i bs hb
      cases hf
      obtain ⟨a, vs, rfl, h1, h2⟩ := hd
      have e := all_ints h2 hb
      subst e
      exact cr_sum hc pins s σ H _ us Q I r ⟨a, bs, rfl, .inl h1, q.int fk⟩
    · cases hf
  · cases hf
theorem maxI_is : ∀ (ns : List Int) (n m : Int), m ∈ n :: ns → (∀ y, y ∈ n :: ns → y ≤ m) → m = maxI n ns
  | [], n, m, h, _ => by
    rcases List.mem_cons.mp h with e | e
    · exact e
    · cases e
  | x :: ns, n, m, h, up => by
    have h1 := up n (List.mem_cons_self ..)
    have h2 := up x (List.mem_cons_of_mem _ (List.mem_cons_self ..))
    show m = maxI (if n < x then x else n) ns
    refine maxI_is ns _ m ?_ fun y hy => ?_
    · rcases List.mem_cons.mp h with e | e
      · subst e
        rw [if_neg (by omega)]
        exact List.mem_cons_self ..
      · rcases List.mem_cons.mp e with e | e
        · subst e
          split
          · exact List.mem_cons_self ..
          · have : m = n := by omega
            rw [this]
            exact List.mem_cons_self ..
        · exact List.mem_cons_of_mem _ e
    · rcases List.mem_cons.mp hy with e | e
      · rw [e]
        split <;> assumption
      · exact up y (List.mem_cons_of_mem _ (List.mem_cons_of_mem _ e))
theorem minI_is : ∀ (ns : List Int) (n m : Int), m ∈ n :: ns → (∀ y, y ∈ n :: ns → m ≤ y) → m = minI n ns
  | [], n, m, h, _ => by
    rcases List.mem_cons.mp h with e | e
    · exact e
    · cases e
  | x :: ns, n, m, h, up => by
    have h1 := up n (List.mem_cons_self ..)
    have h2 := up x (List.mem_cons_of_mem _ (List.mem_cons_self ..))
    show m = minI (if x < n then x else n) ns
    refine minI_is ns _ m ?_ fun y hy => ?_
    · rcases List.mem_cons.mp h with e | e
      · subst e
        rw [if_neg (by omega)]
        exact List.mem_cons_self ..
      · rcases List.mem_cons.mp e with e | e
        · subst e
          split
          · exact List.mem_cons_self ..
          · have : m = n := by omega
            rw [this]
            exact List.mem_cons_self ..
        · exact List.mem_cons_of_mem _ e
    · rcases List.mem_cons.mp hy with e | e
      · rw [e]
        split <;> assumption
      · exact up y (List.mem_cons_of_mem _ (List.mem_cons_of_mem _ e))
theorem call_maxP (hc : X.calm = true) : CallR X (.builtin "max") (rL (bi1 "max")) := by
  intro pins s σ H xs us Q I r ⟨F, x, d, w, e, fk, hd, hf, q⟩
  subst e
  unfold bi1 at hf
  rw [if_neg (by decide), if_neg (by decide), if_neg (by decide), if_neg (by decide), if_pos rfl] at hf
  split at hf
  · split at hf
    · rename_i n bs hb
      cases hf
      obtain ⟨a, vs, rfl, h1, h2⟩ := hd
      have e := all_ints h2 hb
      subst e
      exact cr_max hc pins s σ H _ us Q I r ⟨a, n :: bs, rfl, .inl h1, Nat.zero_lt_succ _, fun m hm up => by rw [maxI_is bs n m hm up]; exact q.int fk⟩
    · cases hf
  · cases hf
theorem call_minP (hc : X.calm = true) : CallR X (.builtin "min") (rL (bi1 "min")) := by
  intro pins s σ H xs us Q I r ⟨F, x, d, w, e, fk, hd, hf, q⟩
  subst e
  unfold bi1 at hf
  rw [if_neg (by decide), if_neg (by decide), if_neg (by decide), if_neg (by decide), if_neg (by decide), if_pos rfl] at hf
  split at hf
  · split at hf
    · rename_i n bs hb
      cases hf
      obtain ⟨a, vs, rfl, h1, h2⟩ := hd
      have e := all_ints h2 hb
      subst e
      exact cr_min hc pins s σ H _ us Q I r ⟨a, n :: bs, rfl, .inl h1, Nat.zero_lt_succ _, fun m hm up => by rw [minI_is bs n m hm up]; exact q.int fk⟩
    · cases hf
  · cases hf
theorem call_intP : CallR X (.type "int") (rL (bi1 "int")) := by
  intro pins s σ H xs us Q I r ⟨F, x, d, w, e, fk, hd, hf, q⟩
  subst e
  unfold bi1 at hf
  rw [if_neg (by decide), if_neg (by decide), if_neg (by decide), if_neg (by decide), if_neg (by decide), if_neg (by decide), if_pos rfl] at hf
  split at hf
  · cases hf
    cases (show x = _ from hd)
    exact call_int1 pins s σ H _ us Q I r (.inl ⟨_, rfl, q.int fk⟩)
  · cases hf
    cases (show x = _ from hd)
    exact call_int1 pins s σ H _ us Q I r (.inr ⟨_, rfl, q.int fk⟩)
  · cases hf
theorem call_absP : CallR X (.builtin "abs") (rL (bi1 "abs")) := by
  intro pins s σ H xs us Q I r ⟨F, x, d, w, e, fk, hd, hf, q⟩
  subst e
  unfold bi1 at hf
  rw [if_neg (by decide), if_neg (by decide), if_neg (by decide), if_neg (by decide), if_neg (by decide), if_neg (by decide), if_neg (by decide), if_pos rfl] at hf
  split at hf
  · cases hf
    cases (show x = _ from hd)
    exact call_abs pins s σ H _ us Q I r ⟨_, rfl, q.int fk⟩
  · cases hf
theorem call_reprP (z : Cz X) : CallR X (.builtin "repr") (rL (bi1 "repr")) := by
  intro pins s σ H xs us Q I r ⟨F, x, d, w, e, fk, hd, hf, q⟩
  subst e
  obtain ⟨u, rfl, rx⟩ := vals1 r
  unfold bi1 at hf
  rw [if_neg (by decide), if_neg (by decide), if_neg (by decide), if_neg (by decide), if_neg (by decide), if_neg (by decide), if_neg (by decide), if_neg (by decide), if_pos rfl] at hf
  split at hf
  · rename_i hc
    cases hf
    obtain ⟨h, h3⟩ := and_t hc
    obtain ⟨h1, h2⟩ := and_t h
    have h2 := of_decide_eq_true h2
    have h3 := of_decide_eq_true h3
    have hu := z.un
    have big : ∀ {a : Addr}, RelV (.ref a) u → DR H d (.ref a) → wpAny (model X.prog X.w) X.A (call (.builtin "repr") [u]) (EP X pins σ Q) X.xe s := fun {a} ra hda => by
      obtain ⟨as, rr, na⟩ := DR.reads z I d _ _ hda ra
      cases (show u = Value.ref a from ra)
      exact repr_of_reads' rr h1 (fun _ => na) z.gd (by omega) (fun _ _ e => e) (fun h' u tk hk => ⟨.str _, H, I.kept hk, ⟨_, rfl⟩, q.str fk⟩) h3
    cases d with
    | none =>
      cases (show x = _ from hd)
      cases (show u = _ from rx)
      exact PySem.P.repr_of_none ⟨.str _, H, I.tok _, ⟨_, rfl⟩, q.str fk⟩
    | bool b =>
      cases (show x = _ from hd)
      cases (show u = _ from rx)
      exact PySem.P.repr_of_bool ⟨.str _, H, I.tok _, ⟨_, rfl⟩, q.str fk⟩
    | int i =>
      cases (show x = _ from hd)
      obtain ⟨t, rfl⟩ := (show ∃ t, u = Value.int i t from rx)
      exact PySem.P.repr_of_int (of_decide_eq_true h1) ⟨.str _, H, I.tok _, ⟨_, rfl⟩, q.str fk⟩
    | str y =>
      cases (show x = _ from hd)
      obtain ⟨t, rfl⟩ := (show ∃ t, u = Value.str y t from rx)
      exact PySem.P.repr_of_str ⟨.str _, H, I.tok _, ⟨_, rfl⟩, q.str fk⟩ h3
    | list ys => obtain ⟨a, vs, rfl, g⟩ := id hd; exact big rx hd
    | tuple ys => obtain ⟨a, vs, rfl, g⟩ := id hd; exact big rx hd
    | dict ys => obtain ⟨a, rfl, g⟩ := id hd; exact big rx hd
  · cases hf
/-- a name's built-in value, and what its call says -/
def Blt (X : Cx) (x : PySem.Str) (r : List V → Hp → VK → Prop) : Prop := ∃ v, bootBuiltins x = some v ∧ x ≠ "__name__" ∧ (x == ("__debug__" : PySem.Str)) = false ∧ ((∃ id, v = .builtin id) ∨ ∃ T, v = .type T) ∧ CallR X v r
theorem blt_of {x : PySem.Str} {id : String} {r : List V → Hp → VK → Prop} (h : CallR X (.builtin id) r) (e : bootBuiltins x = some (.builtin id)) (n : x ≠ "__name__" := by decide +kernel) (d : (x == ("__debug__" : PySem.Str)) = false := by decide +kernel) : Blt X x r := ⟨_, e, n, d, .inl ⟨_, rfl⟩, h⟩
theorem blt_ty {x : PySem.Str} {id : String} {r : List V → Hp → VK → Prop} (h : CallR X (.type id) r) (e : bootBuiltins x = some (.type id)) (n : x ≠ "__name__" := by decide +kernel) (d : (x == ("__debug__" : PySem.Str)) = false := by decide +kernel) : Blt X x r := ⟨_, e, n, d, .inr ⟨_, rfl⟩, h⟩
theorem look_blt (z : Cz X) {f : PySem.Str} (h : isLook f = true) : Blt X f (rL (bi1 f)) := by
  unfold isLook at h
  simp only [Bool.or_eq_true, decide_eq_true_eq] at h
  rcases h with (((((((h | h) | h) | h) | h) | h) | h) | h) | h <;> subst h
  · exact blt_of call_lenP (by decide +kernel)
  · exact blt_of (call_allP z.calm) (by decide +kernel)
  · exact blt_of (call_anyP z.calm) (by decide +kernel)
  · exact blt_of (call_sumP z.calm) (by decide +kernel)
  · exact blt_of (call_maxP z.calm) (by decide +kernel)
  · exact blt_of (call_minP z.calm) (by decide +kernel)
  · exact blt_ty call_intP (by decide +kernel)
  · exact blt_of call_absP (by decide +kernel)
  · exact blt_of (call_reprP z) (by decide +kernel)
theorem look2_blt (hc : X.calm = true) {f : PySem.Str} (h : f = "max" ∨ f = "min") : Blt X f (rL2 (bi2 f)) := by
  rcases h with h | h <;> subst h
  · refine blt_of (id := "max") (fun pins s σ H xs us Q I r ⟨F, x, y, d, d', w, e, fk, hd, hd', hf, q⟩ => ?_) (by decide +kernel)
    subst e
    unfold bi2 at hf
    rw [if_pos rfl] at hf
    split at hf
    · cases hf
      cases (show x = _ from hd)
      cases (show y = _ from hd')
      exact call_max2 hc pins s σ H _ us Q I r ⟨_, _, rfl, q.int fk⟩
    · cases hf
  · refine blt_of (id := "min") (fun pins s σ H xs us Q I r ⟨F, x, y, d, d', w, e, fk, hd, hd', hf, q⟩ => ?_) (by decide +kernel)
    subst e
    unfold bi2 at hf
    rw [if_neg (by decide), if_pos rfl] at hf
    split at hf
    · cases hf
      cases (show x = _ from hd)
      cases (show y = _ from hd')
      exact call_min2 hc pins s σ H _ us Q I r ⟨_, _, rfl, q.int fk⟩
    · cases hf
theorem bi2_name {f : PySem.Str} {x y : PyData} {w : Vl} (h : bi2 f x y = some w) : f = "max" ∨ f = "min" := by
  unfold bi2 at h
  split at h
  · rename_i e; exact .inl e
  · split at h
    · rename_i e; exact .inr e
    · cases h
end
end PD
end
section
/-! PD9: built-ins that make. -/
namespace PD
open PySem PySem.Spec PyProof.Rows L2
def rK (f : PyData → Option Vl) : List V → Hp → VK → Prop := fun xs H Q => ∃ F x d w, xs = [x] ∧ FOk F H ∧ DK F H d x ∧ f d = some w ∧ Nw F H w Q
section
variable {X : Cx} {pins : List (Addr × Obj)} {σ : L2.St} {H : Hp} {s : Shared}
/-- a value that stands for shared data -/
def Sv (F : Hp) (u : Value) (d : PyData) : Prop := ∃ x, Fz F d x ∧ RelV x u
theorem sv_each {F : Hp} : ∀ {xs : List PyData} {vs : List V} {us : List Value}, Fzs F xs vs → Vals vs us → PySem.W.EachIs (Sv F) us xs
  | [], _, _, h, r => by cases (show _ = [] from h); cases r; exact .nil
  | x :: xs, _, _, ⟨v, q, e, a, b⟩, r => by
    subst e
    cases r with
    | cons r1 r2 => exact .cons ⟨v, a, r1⟩ (sv_each b r2)
theorem each_sv {F : Hp} : ∀ {xs : List PyData} {us : List Value}, PySem.W.EachIs (Sv F) us xs → ∃ vs, Fzs F xs vs ∧ Vals vs us
  | _, _, .nil => ⟨[], rfl, .nil⟩
  | _, _, .cons ⟨x, a, r⟩ t => by
    obtain ⟨vs, b, q⟩ := each_sv t
    exact ⟨x :: vs, ⟨x, vs, rfl, a, b⟩, .cons r q⟩
theorem reads_each (z : Cz X) (I : Inv X pins σ H s) {F : Hp} (fk : FOk F H) {P : List Addr → Prop} (hP : ∀ as, sysModules ∉ as → P as) {us : List Value} {xs : List PyData} (e : PySem.W.EachIs (Sv F) us xs) :
    PySem.W.EachIs (fun v b => ∃ as, Reads s.heap v (id b) as) us xs := e.mono fun u d ⟨x, a, r⟩ => by
  obtain ⟨as, h, _⟩ := DR.reads z I d x u (Fz.dr fk d x a) r
  exact ⟨as, h⟩
theorem sort_ok {xs : List PyData} (h : sortOk xs = true) : xs.length ≤ sizeLine ∧ PySem.W.AllAlike (xs.map id) ∧ PySem.W.Sortable (xs.map id) ∧ ∀ d, d ∈ xs → d.depth ≤ 50 := by
  rw [List.map_id]
  unfold sortOk at h
  obtain ⟨h, h4⟩ := and_t h
  obtain ⟨h, h3⟩ := and_t h
  obtain ⟨h1, h2⟩ := and_t h
  refine ⟨of_decide_eq_true h1, fun d hd d' hd' => ?_, ?_, fun d hd => ?_⟩
  · exact List.all_eq_true.mp (List.all_eq_true.mp h2 d hd) d' hd'
  · rcases Bool.or_eq_true_iff.mp h3 with h3 | h3
    · refine .inl fun d hd => ?_
      have := List.all_eq_true.mp h3 d hd
      cases d with
      | tuple ys =>
        cases ys with
        | nil => cases this
        | cons y ys => exact ⟨y, ys, rfl⟩
      | _ => cases this
    · refine .inr fun d hd => ?_
      have := List.all_eq_true.mp h3 d hd
      cases d with
      | tuple ys => cases this
      | none => cases this
      | _ => exact ⟨(fun z => nomatch z), fun _ z => nomatch z⟩
  · exact of_decide_eq_true (List.all_eq_true.mp h4 d hd)
theorem len_sort (xs : List PyData) : (xs.mergeSort (PySem.W.dataLe false id)).length = xs.length := List.length_mergeSort xs
theorem keys_fz {F : Hp} : ∀ {kvs : List (PyData × PyData)} {ks : List (Key × V)}, FzK F kvs ks → Fzs F (kvs.map (·.1)) (ks.map fun p => kV p.1)
  | [], _, h => by cases (show _ = [] from h); rfl
  | (k, x) :: r, _, ⟨q, v, t, e, ek, a, b⟩ => by
    subst e ek
    refine ⟨kV q, _, rfl, ?_, keys_fz b⟩
    cases q <;> rfl
theorem dk_leaf (I : Inv X pins σ H s) {F : Hp} {kvs : List (PyData × PyData)} {x : V} (hx : DK F H (.dict kvs) x) (hl : allLeaf kvs = true) :
    ∃ a ks vs, x = .ref a ∧ (a == sysModules) = false ∧ FzK F kvs ks ∧ KV ks vs ∧ s.heap.DictOf (mixKind X.prog X.w) a vs ∧ vs.length ≤ sizeLine := by
  obtain ⟨a, rfl, ⟨ks, r, q⟩ | ⟨ks, r, q⟩⟩ := hx
  · obtain ⟨z, hd, vs, kv, dd⟩ := dk_rd I.hok r
    exact ⟨a, ks, vs, rfl, hd, q, kv, dd, by rw [← Paired.length kv]; exact z⟩
  · cases kvs with
    | nil =>
      cases (show ks = [] from q)
      exact ⟨a, [], [], rfl, (hollowK I r).1, rfl, .nil, (hollowK I r).2, Nat.zero_le _⟩
    | cons p kvs =>
      obtain ⟨j, z⟩ := p
      obtain ⟨qq, v, t, e, ek, _⟩ := q
      subst ek
      unfold allLeaf at hl
      rw [List.all_cons] at hl
      obtain ⟨w, e⟩ := leaf_key (and_t hl).1
      exact (leaf_not_tup e.symm).elim
theorem kv_map {ks : List (Key × V)} {vs : List (Key × Value)} (r : KV ks vs) : (ks.map fun p => kV p.1) = vs.map fun p => kV p.1 := by
  unfold KV at r
  induction r with
  | nil => rfl
  | cons h t ih => rw [List.map_cons, List.map_cons, ih, h.1]
theorem call_sortedP (z : Cz X) : CallR X (.builtin "sorted") (rK (bk1 "sorted")) := by
  intro pins s σ H xs us Q I r ⟨F, x, d, w, e, fk, hd, hf, q⟩
  subst e
  obtain ⟨u, rfl, rx⟩ := vals1 r
  have hu := z.un
  unfold bk1 at hf
  rw [if_pos rfl] at hf
  split at hf
  · rename_i ys
    split at hf
    · rename_i ho
      cases hf
      simp only [sortD_merge] at q
      obtain ⟨h1, h2, h3, h4⟩ := sort_ok ho
      obtain ⟨a, vs, rfl, hR, fz⟩ := hd
      cases (show u = Value.ref a from rx)
      obtain ⟨its, rv, pl, _⟩ := I.list (.inl hR)
      have ee := sv_each fz rv
      refine PySem.W.sorted_data (R := Sv F) (enc := id) pl.isList ee (reads_each z I fk (P := fun _ => True) (fun _ _ => trivial) ee) h2 h3 h1 (fun b hb => by have := h4 b hb; show X.A.units + 2 + b.depth < cLine; omega) fun out ol eo => ?_
      obtain ⟨ws, f2, r2⟩ := each_sv eo
      obtain ⟨ep, he⟩ := PyProof.Rows.sortedAll_at s.heap its (List.toArray out)
      have wl := f2.len
      rw [len_sort] at wl
      exact ⟨.ref _, upd H (s.heap.objs.size + 1) (.lst ws), I.laid (t' := s.toks) (fun _ _ => PyProof.Rows.sortedAll_old) (Nat.le_succ _) ⟨by omega, out, ep, r2, he⟩, rfl, q.list fk f2 _ (I.hok.fresh (Nat.le_succ _))⟩
    · cases hf
  · rename_i kvs
    split at hf
    · rename_i ho
      cases hf
      simp only [sortD_merge] at q
      obtain ⟨ho, hl⟩ := and_t ho
      obtain ⟨h1, h2, h3, h4⟩ := sort_ok ho
      obtain ⟨a, ks, vs, rfl, lo, fz, kv, dd, z16⟩ := dk_leaf I hd hl
      cases (show u = Value.ref a from rx)
      obtain ⟨ep, hat⟩ := dd.dictAt
      refine Calls.call_function_entry PyProof.Rows.kind_sorted PyProof.Rows.plain_sorted PyProof.Rows.entry_sorted (PyProof.Rows.args_sorted1 _) ?_
      unfold Builtin.«sorted»
      refine wpAny_bind (m := checkCount "sorted" 1 1 _) (wpAny_pure ?_)
      have src := PySem.W.kdl_dict (prog := X.prog) (w := X.w) (knd := mixKind X.prog X.w) (kvs := vs) (ep := ep) lo
      refine wpAny_bind (PySem.W.kdu_collect src (I.ok.hd z.calm) hat z16 fun h' tk acc hk hacc => ?_)
      have al : acc.toList.length = vs.length := by rw [Array.length_toList, hacc.1]
      have rk : Vals (ks.map fun p => kV p.1) acc.toList := by
        rw [kv_map kv]
        exact keys_at al fun j v ev => hacc.2 j v (by rw [← Array.getElem?_toList]; exact ev)
      have fks := keys_fz fz
      have ee := sv_each fks rk
      have I1 : Inv X pins σ H { s with heap := h', toks := tk } := I.kept hk
      have kl := fks.len
      have vl := Paired.length kv
      simp only [List.length_map] at kl h1
      refine wpAny_bind (wpAny_newList ?_ (by omega))
      have hoL : (h'.push (seqObj "list" acc.toList.toArray 0)).get? h'.objs.size = some (seqObj "list" acc.toList.toArray 0) := Heap.get?_push_size _ rfl
      have I2 : Inv X pins σ H { s with heap := h'.push (seqObj "list" acc.toList.toArray 0), toks := tk } := I1.kept fun b o e => Heap.get?_push_of_some _ e
      have er : PySem.W.EachIs (fun v b => ∃ as, Reads (h'.push (seqObj "list" acc.toList.toArray 0)) v (id b) as ∧ h'.objs.size ∉ as) acc.toList (kvs.map (·.1)) := ee.mono fun u d ⟨x, a, r⟩ => by
        obtain ⟨as, hr, _⟩ := DR.reads z I1 d x u (Fz.dr fk d x a) r
        have lt : ∀ b ∈ as, b < h'.objs.size := fun b hb => by
          obtain ⟨o, ho⟩ := PyProof.On.reads_mem_get hr b hb
          exact Heap.lt_size ho
        exact ⟨as, PyProof.Rows.Reads.keeps (fun b o e => Heap.get?_push_of_some _ e) hr, fun hm => absurd (lt _ hm) (Nat.lt_irrefl _)⟩
      show wpAny _ _ _ _ _ { s with heap := h'.push (seqObj "list" acc.toList.toArray 0), toks := tk }
      refine wpAny_bind (wpAny_holding (PySem.W.list_sort_data (R := Sv F) (enc := id) hoL ee er h2 h3 (by simp only [List.length_map]; omega) (fun b hb => by have := h4 b hb; show X.A.units + 1 + 1 + b.depth < cLine; omega) fun out ol eo => ?_))
      obtain ⟨ws, f2, r2⟩ := each_sv eo
      obtain ⟨e', he'⟩ := PyProof.Rows.sortedHeap_at (vs := acc.toList) (out := List.toArray out) hoL
      have wl := f2.len
      rw [len_sort] at wl
      simp only [List.length_map] at wl
      refine wpAny_pure ⟨_, rfl, .ref h'.objs.size, upd H h'.objs.size (.lst ws), I1.laid (t' := tk) (fun b u e => ?_) (Nat.le_refl _) (show ObjOk X.prog X.w _ _ _ (.lst ws) from ⟨by omega, out, e', r2, he'⟩), rfl, q.list fk f2 _ (I1.hok.fresh (Nat.le_refl _))⟩
      have hb : b < h'.objs.size := Heap.lt_size e
      exact (PyProof.Rows.sortedHeap_old (Nat.ne_of_lt hb) (by rw [size_push']; exact Nat.lt_succ_of_lt hb)).trans (Heap.get?_push_of_some _ e)
    · cases hf
  · cases hf
theorem call_listP (z : Cz X) : CallR X (.type "list") (rK (bk1 "list")) := by
  intro pins s σ H xs us Q I r ⟨F, x, d, w, e, fk, hd, hf, q⟩
  subst e
  unfold bk1 at hf
  rw [if_neg (by decide), if_pos rfl] at hf
  split at hf
  · cases hf
    obtain ⟨a, vs, rfl, hR, fz⟩ := hd
    exact call_list_of pins s σ H _ us Q I r ⟨a, vs, rfl, .inl (.inl hR), q.list fk fz⟩
  · cases hf
    obtain ⟨a, vs, rfl, hR, fz⟩ := hd
    exact call_list_of pins s σ H _ us Q I r ⟨a, vs, rfl, .inr (.of (show H a = _ from fk _ _ hR)), q.list fk fz⟩
  · rename_i kvs
    split at hf
    · rename_i hl
      cases hf
      obtain ⟨u, rfl, rx⟩ := vals1 r
      obtain ⟨a, ks, vs, rfl, lo, fz, kv, dd, z16⟩ := dk_leaf I hd hl
      cases (show u = Value.ref a from rx)
      obtain ⟨ep, hat⟩ := dd.dictAt
      have src := PySem.W.kdl_dict (prog := X.prog) (w := X.w) (knd := mixKind X.prog X.w) (kvs := vs) (ep := ep) lo
      refine PySem.W.kdl_call src (I.ok.hd z.calm) hat z16 fun h' tk acc c' hk hS hacc => ?_
      have al : acc.toList.length = vs.length := by rw [Array.length_toList, hacc.1]
      have rk : Vals (ks.map fun p => kV p.1) acc.toList := by
        rw [kv_map kv]
        exact keys_at al fun j v ev => hacc.2 j v (by rw [← Array.getElem?_toList]; exact ev)
      have hz : (ks.map fun p => kV p.1).length ≤ sizeLine := by rw [List.length_map, Paired.length kv]; exact z16
      exact ⟨.ref _, _, I.laid (t' := tk) hk (Nat.le_refl _) (show ObjOk X.prog X.w _ _ _ (.lst (ks.map fun p => kV p.1)) from ⟨hz, acc.toList, c', rk, by rw [Array.toArray_toList]; exact hS⟩), rfl, q.list fk (keys_fz fz) _ I.fresh⟩
    · cases hf
  · cases hf
theorem call_tupleP : CallR X (.type "tuple") (rK (bk1 "tuple")) := by
  intro pins s σ H xs us Q I r ⟨F, x, d, w, e, fk, hd, hf, q⟩
  subst e
  unfold bk1 at hf
  rw [if_neg (by decide), if_neg (by decide), if_pos rfl] at hf
  split at hf
  · cases hf
    obtain ⟨a, vs, rfl, hR, fz⟩ := hd
    exact call_tuple_of pins s σ H _ us Q I r ⟨a, vs, rfl, .inl ⟨.inl hR, q.tuple fk fz⟩⟩
  · cases hf
    obtain ⟨a, vs, rfl, hR, fz⟩ := hd
    exact call_tuple_of pins s σ H _ us Q I r ⟨a, vs, rfl, .inr ⟨.of (show H a = _ from fk _ _ hR), q.fz fk ⟨a, vs, rfl, hR, fz⟩⟩⟩
  · cases hf
/-! merging -/
theorem FzK.put {F : Hp} {k : Key} {d : PyData} {v : V} (h : Fz F d v) : ∀ {kvs : List (PyData × PyData)} {ks : List (Key × V)}, FzK F kvs ks → (ks.map (·.1)).Nodup → FzK F (dput kvs (keyPy k) d) (putK ks k v) := by
  have key : ∀ {kvs : List (PyData × PyData)} {ks : List (Key × V)}, FzK F kvs ks → ((ks.any fun kv => decide (kv.1 = k)) = false → FzK F (dput kvs (keyPy k) d) (ks ++ [(k, v)])) ∧
      ((ks.map (·.1)).Nodup → (ks.any fun kv => decide (kv.1 = k)) = true → FzK F (dput kvs (keyPy k) d) (ks.map fun kv => if kv.1 = k then (kv.1, v) else kv)) := by
    intro kvs
    induction kvs with
    | nil =>
      intro ks h0
      cases (show ks = [] from h0)
      exact ⟨fun _ => ⟨k, v, [], rfl, rfl, h, rfl⟩, fun _ z => nomatch z⟩
    | cons p r ih =>
      intro ks h0
      obtain ⟨j, x⟩ := p
      obtain ⟨q, w, t, e, ej, h1, h2⟩ := h0
      subst e ej
      obtain ⟨i1, i2⟩ := ih h2
      unfold dput
      rw [keyEq_leaf]
      by_cases e : q = k
      · subst e
        rw [if_pos (decide_eq_true rfl)]
        refine ⟨fun z => ?_, fun nd _ => ?_⟩
        · simp at z
        · rw [List.map_cons, List.nodup_cons] at nd
          rw [List.map_cons, if_pos rfl]
          refine ⟨q, v, _, rfl, rfl, h, ?_⟩
          have : (t.map fun kv => if kv.1 = q then (kv.1, v) else kv) = t := by
            conv => rhs; rw [← List.map_id t]
            refine List.map_congr_left fun p hp => ?_
            rw [if_neg fun e => nd.1 (List.mem_map.mpr ⟨p, hp, e⟩)]
            rfl
          rw [this]
          exact h2
      · rw [if_neg (by simpa using e)]
        refine ⟨fun z => ?_, fun nd z => ?_⟩
        · rw [List.any_cons, Bool.or_eq_false_iff] at z
          exact ⟨q, w, _, rfl, rfl, h1, i1 z.2⟩
        · rw [List.map_cons, List.nodup_cons] at nd
          rw [List.any_cons, decide_eq_false e, Bool.false_or] at z
          rw [List.map_cons, if_neg e]
          exact ⟨q, w, _, rfl, rfl, h1, i2 nd.2 z⟩
  intro kvs ks h0 nd
  unfold putK
  split
  · rename_i e
    exact (key h0).2 nd e
  · rename_i e
    exact (key h0).1 (by cases z : (ks.any fun kv => decide (kv.1 = k)) <;> first | rfl | exact absurd z e)
theorem putK_nodup {k : Key} {v : V} {ks : List (Key × V)} (nd : (ks.map (·.1)).Nodup) : ((putK ks k v).map (·.1)).Nodup := by
  unfold putK
  split
  · have : (ks.map fun kv => if kv.1 = k then (kv.1, v) else kv).map (·.1) = ks.map (·.1) := by
      rw [List.map_map]
      refine List.map_congr_left fun p hp => ?_
      show (if p.1 = k then (p.1, v) else p).1 = p.1
      split <;> rfl
    rw [this]
    exact nd
  · rename_i e
    rw [List.map_append, List.nodup_append]
    refine ⟨nd, by simp, fun a ha b hb => ?_⟩
    rw [List.map_cons, List.map_nil, List.mem_singleton] at hb
    subst hb
    intro h
    subst h
    obtain ⟨p, hp, e'⟩ := List.mem_map.mp ha
    exact e (List.any_eq_true.mpr ⟨p, hp, decide_eq_true e'⟩)
theorem FzK.merge {F : Hp} : ∀ {more : List (PyData × PyData)} {ms : List (Key × V)} {kvs : List (PyData × PyData)} {ks : List (Key × V)}, FzK F more ms → FzK F kvs ks → (ks.map (·.1)).Nodup → FzK F (mergeD kvs more) (mergeK ks ms)
  | [], _, _, _, h, h0, _ => by cases (show _ = [] from h); exact h0
  | (j, x) :: r, _, _, _, ⟨q, w, t, e, ej, h1, h2⟩, h0, nd => by
    subst e ej
    show FzK F (mergeD (dput _ (keyPy q) x) r) (mergeK (putK _ q w) t)
    exact FzK.merge h2 (FzK.put h1 h0 nd) (putK_nodup nd)
theorem pairs_fz {F H : Hp} (fk : FOk F H) {K : PySem.W.Frag} : ∀ {xs : List PyData} {kvs : List (PyData × PyData)} {vs : List V}, allPairs xs = some kvs → Fzs F xs vs → kvs.all (fun p => keyLeaf p.1) = true →
    ∃ (ps : List Addr) (ks : List (Key × V)), vs = ps.map V.ref ∧ FzK F kvs ks ∧ Paired (fun p kv => SqT K H p [kV kv.1, kv.2]) ps ks
  | [], kvs, vs, h, f, _ => by
    cases h
    cases (show vs = [] from f)
    exact ⟨[], [], rfl, rfl, .nil⟩
  | x :: xs, kvs, vs, h, ⟨v, r, e, a, b⟩, hl => by
    subst e
    unfold allPairs at h
    split at h
    · rename_i heq
      cases heq
    · rename_i k y r' heq
      cases heq
      cases e : allPairs xs with
      | none => rw [e] at h; cases h
      | some bs =>
        rw [e] at h
        cases h
        rw [List.all_cons] at hl
        obtain ⟨l1, l2⟩ := and_t hl
        obtain ⟨q, rfl⟩ := leaf_key l1
        obtain ⟨p, ws, rfl, hp, v1, r1, rfl, f1, v2, r2, rfl, f2, f3⟩ := a
        cases (show r2 = [] from f3)
        have e1 : v1 = kV q := by cases q <;> exact f1
        subst e1
        obtain ⟨ps, ks, rfl, fk', pr⟩ := pairs_fz fk (K := K) e b l2
        exact ⟨p :: ps, (q, v2) :: ks, rfl, ⟨q, v2, ks, rfl, rfl, f2, fk'⟩, .cons (.of (show H p = _ from fk _ _ hp)) pr⟩
    · cases h
theorem call_dictP' (z : Cz X) : CallR X (.type "dict") (rK (bk1 "dict")) := by
  intro pins s σ H xs us Q I r ⟨F, x, d, w, e, fk, hd, hf, q⟩
  subst e
  unfold bk1 at hf
  rw [if_neg (by decide), if_neg (by decide), if_neg (by decide), if_pos rfl] at hf
  split at hf
  · rename_i ys
    split at hf
    · rename_i kvs hp
      split at hf
      · rename_i hl
        cases hf
        obtain ⟨a, vs, rfl, hR, fz⟩ := hd
        obtain ⟨ps, ks, rfl, fks, pr⟩ := pairs_fz fk (K := X.K) hp fz hl
        exact call_dictP z.calm pins s σ H _ us Q I r ⟨a, ps, ks, rfl, .inl hR, pr, q.dictK fk (FzK.merge fks rfl List.nodup_nil)⟩
      · cases hf
    · cases hf
  · rename_i kvs
    split at hf
    · rename_i hl
      cases hf
      obtain ⟨u, rfl, rx⟩ := vals1 r
      obtain ⟨a, ks, vs, rfl, lo, fz, kv, dd, z16⟩ := dk_leaf I hd hl
      cases (show u = Value.ref a from rx)
      refine kt_call_dict lo dd z16 fun h' d' hs => ?_
      have old : ∀ b o, s.heap.get? b = some o → h'.get? b = some o := fun b o e => (hs.2 b (Nat.ne_of_lt (Heap.lt_size e))).trans (Heap.get?_push_of_some _ e)
      have nsm : (s.heap.objs.size == sysModules) = false := beq_eq_false_iff_ne.mpr (Nat.ne_of_gt I.big)
      exact ⟨.ref _, _, I.laid (t' := s.toks) old (Nat.le_refl _) (show ObjOk X.prog X.w _ _ _ (.dK ks) from ⟨by rw [Paired.length kv]; exact z16, nsm, vs, kv, d'⟩), rfl, q.dictK fk fz _ I.fresh⟩
    · cases hf
  · cases hf
theorem make_blt (z : Cz X) {f : PySem.Str} (h : isMake f = true) : Blt X f (rK (bk1 f)) := by
  unfold isMake at h
  simp only [Bool.or_eq_true, decide_eq_true_eq] at h
  rcases h with ((h | h) | h) | h <;> subst h
  · exact blt_of (call_sortedP z) (by decide +kernel)
  · exact blt_ty (call_listP z) (by decide +kernel)
  · exact blt_ty call_tupleP (by decide +kernel)
  · exact blt_ty (call_dictP' z) (by decide +kernel)
end
end PD
end
section
/-! PD10: items. -/
namespace PD
open PySem PySem.Spec PyProof.Rows L2
/-- v is what stands in x at y -/
def It (H : Hp) (x y v : V) : Prop :=
  (∃ a vs j, x = .ref a ∧ y = .int j ∧ (Rd H a (.lst vs) ∨ H a = some (.tup vs)) ∧ atI vs j = some v) ∨
  (∃ z j c, x = .str z ∧ y = .int j ∧ z.length ≤ sizeLine ∧ atI z.cps.toList j = some c ∧ v = .str ⟨#[c]⟩) ∨
  ∃ a, x = .ref a ∧ DGet H a y (some v)
def rIt : R2 := fun x y H Q => ∃ d i w, DR H d x ∧ DR H i y ∧ itemOf d i = some w ∧ ∀ v, It H x y v → Q v H
theorem atD_atI {α : Type} (xs : List α) (j : Int) : atD xs j = atI xs j := by
  unfold atD atI ixN
  by_cases h : 0 ≤ j
  · rw [if_pos h, if_pos h]
    by_cases h2 : j < xs.length
    · rw [if_pos h2]; rfl
    · rw [if_neg h2]
      exact List.getElem?_eq_none_iff.mpr (by omega)
  · rw [if_neg h, if_neg h]
    by_cases h2 : -(xs.length : Int) ≤ j
    · rw [if_pos h2, if_pos h2]; rfl
    · rw [if_neg h2, if_neg h2]; rfl
theorem atI_len {α β : Type} {xs : List α} {ys : List β} (h : xs.length = ys.length) (j : Int) {x : α} (e : atI xs j = some x) : ∃ (k : Nat) (y : β), atI ys j = some y ∧ xs[k]? = some x ∧ ys[k]? = some y := by
  unfold atI at e ⊢
  rw [← h]
  cases q : ixN xs.length j with
  | none => rw [q] at e; cases e
  | some k =>
    rw [q] at e
    have e' : xs[k]? = some x := e
    have lt := (List.getElem?_eq_some_iff.mp e').1
    exact ⟨k, ys[k]'(by omega), by simp, e', by simp⟩
section
variable {X : Cx} {pins : List (Addr × Obj)} {σ : L2.St} {H : Hp} {s : Shared}
theorem tail_of {prog : Program} {w : World} {A : Around} {E : Value → Shared → Prop} {value slice : Expr} {o i : Value} {T id : String} {Q : Value → Shared → Prop}
    (ty : s.TypeIs o T) (slot : typeLookup (.type T) "__getitem__" = pure (some (.builtin id))) (plain : subscripted slice false o i = operate [o, i] (getItem o i)) (h : wpAny (model prog w) A (getItem o i) Q E s) :
    wpAny (model prog w) A (subscriptTail value slice o i) Q E s := by
  unfold subscriptTail
  refine wpAny_bind ?_
  rw [getitemInPython_of_ne ty.not_modules]
  refine wpAny_bind (wpAny_specialOf ty slot ?_)
  have tail : wpAny (model prog w) A (subscripted slice false o i) (fun r s' => wpAny (model prog w) A (letTemporaryGo value o r >>= fun _ => pure r) Q E s') E s := by
    rw [plain]
    exact wpAny_operating (wpAny_mono h (fun r s' h' => wpAny_bind (wpAny_letTemporaryGo (wpAny_pure h'))) fun _ _ x => x)
  first
    | exact wpAny_pure (wpAny_bind tail)
    | exact wpAny_bind (wpAny_pure (wpAny_bind tail))
    | exact wpAny_bind tail
theorem ix_item (z : Cz X) : IxR X rIt := by
  intro value slice pins s σ H x y v u Q I rx ry ⟨d, i, w, hx, hy, e, q⟩ hs
  have hu : X.A.units + 1 < cLine := by have := z.un; omega
  unfold itemOf at e
  split at e
  · split at e
    · rename_i j
      obtain ⟨a, vs, rfl, h1, h2⟩ := hx
      cases (show y = _ from hy)
      rw [atD_atI] at e
      obtain ⟨k, y, ey, _⟩ := atI_len (h2.len.symm) j e
      exact ix_list value slice pins s σ H _ _ v u Q I rx ry ⟨a, vs, j, y, rfl, rfl, .inl h1, ey, q y (.inl ⟨a, vs, j, rfl, rfl, .inl h1, ey⟩)⟩ hs
    · cases e
  · split at e
    · rename_i j
      obtain ⟨a, vs, rfl, h1, h2⟩ := hx
      cases (show y = _ from hy)
      rw [atD_atI] at e
      obtain ⟨k, y, ey, _⟩ := atI_len (h2.len.symm) j e
      exact ix_tup value slice pins s σ H _ _ v u Q I rx ry ⟨a, vs, j, y, rfl, rfl, .of h1, ey, q y (.inl ⟨a, vs, j, rfl, rfl, .inr h1, ey⟩)⟩ hs
    · cases e
  · split at e
    · rename_i j
      split at e
      · rename_i hl
        split at e
        · rename_i c hc
          cases (show x = _ from hx)
          cases (show y = _ from hy)
          rw [atD_atI] at hc
          exact ix_str value slice pins s σ H _ _ v u Q I rx ry ⟨_, j, c, rfl, rfl, hl, hc, q _ (.inr (.inl ⟨_, j, c, rfl, rfl, hl, hc, rfl⟩))⟩ hs
        · cases e
      · cases e
    · cases e
  · split at e
    · rename_i kvs hk
      obtain ⟨a, o, rfl, hD, g, hr⟩ := dgot I hx hy hk
      rw [e] at hr
      rcases hr with ⟨z1, _⟩ | ⟨d', w', e1, rfl, dr⟩
      · cases z1
      · cases e1
        have g : DGet H a y (some w') := by
          rcases g with g | ⟨g, _⟩
          · exact g
          · cases g
        cases (show v = Value.ref a from rx)
        exact tail_of (isD_at I hD).1 PySem.F.slot_dict_getitem.lookup hs (d_getItem hu I g ry fun w2 s' I' r2 => ⟨w', H, I', r2, q w' (.inr (.inr ⟨a, rfl, g⟩))⟩)
    · cases e
  · cases e
/-! what the item stands for -/
theorem Fzs.get {F : Hp} : ∀ {xs : List PyData} {vs : List V} {k : Nat} {x : PyData} {v : V}, Fzs F xs vs → xs[k]? = some x → vs[k]? = some v → Fz F x v
  | [], _, _, _, _, _, h, _ => by simp at h
  | y :: ys, _, 0, x, v, ⟨w, r, e, a, b⟩, h, h' => by
    subst e
    simp at h h'
    subst h h'
    exact a
  | y :: ys, _, k + 1, x, v, ⟨w, r, e, a, b⟩, h, h' => by
    subst e
    exact Fzs.get b (by simpa using h) (by simpa using h')
theorem Reps.get {R : PyData → V → Ft → Prop} : ∀ {xs : List PyData} {vs : List V} {A : Ft} {k : Nat} {x : PyData} {v : V}, Reps R xs vs A → xs[k]? = some x → vs[k]? = some v → ∃ B, R x v B ∧ ∀ a, B a ≤ A a
  | [], _, _, _, _, _, _, h, _ => by simp at h
  | y :: ys, _, A, 0, x, v, ⟨w, r, B, C, e, a, b, s⟩, h, h' => by
    subst e
    simp at h h'
    subst h h'
    exact ⟨B, a, fun c => by rw [s c]; omega⟩
  | y :: ys, _, A, k + 1, x, v, ⟨w, r, B, C, e, a, b, s⟩, h, h' => by
    subst e
    obtain ⟨D, h1, h2⟩ := Reps.get b (by simpa using h) (by simpa using h')
    exact ⟨D, h1, fun c => by have := h2 c; rw [s c]; omega⟩
theorem RepsK.get {R : PyData → V → Ft → Prop} {k : Key} : ∀ {kvs : List (PyData × PyData)} {ks : List (Key × V)} {A : Ft} {x : PyData} {v : V}, RepsK R kvs ks A → dget kvs (keyPy k) = some x → valV ks k = some v → ∃ B, R x v B ∧ ∀ a, B a ≤ A a
  | [], _, _, _, _, _, h, _ => by cases h
  | (j, y) :: ys, _, A, x, v, ⟨q, w, r, B, C, e, ej, a, b, s⟩, h, h' => by
    subst e ej
    unfold dget at h
    rw [keyEq_leaf] at h
    by_cases e : q = k
    · subst e
      rw [if_pos (decide_eq_true rfl)] at h
      rw [valV_pos rfl] at h'
      cases h; cases h'
      exact ⟨B, a, fun c => by rw [s c]; omega⟩
    · rw [if_neg (by simpa using e)] at h
      rw [valV_neg e] at h'
      obtain ⟨D, h1, h2⟩ := RepsK.get b h h'
      exact ⟨D, h1, fun c => by have := h2 c; rw [s c]; omega⟩
theorem RepsT.get {R : PyData → V → Ft → Prop} {k : List Key} : ∀ {kvs : List (PyData × PyData)} {ks : List (List Key × V)} {A : Ft} {x : PyData} {v : V}, RepsT R kvs ks A → dget kvs (tkeyPy k) = some x → valV ks k = some v → ∃ B, R x v B ∧ ∀ a, B a ≤ A a
  | [], _, _, _, _, _, h, _ => by cases h
  | (j, y) :: ys, _, A, x, v, ⟨q, w, r, B, C, e, ej, a, b, s⟩, h, h' => by
    subst e ej
    unfold dget at h
    rw [keyEq_tup] at h
    by_cases e : q = k
    · subst e
      rw [if_pos (decide_eq_true rfl)] at h
      rw [valV_pos rfl] at h'
      cases h; cases h'
      exact ⟨B, a, fun c => by rw [s c]; omega⟩
    · rw [if_neg (by simpa using e)] at h
      rw [valV_neg e] at h'
      obtain ⟨D, h1, h2⟩ := RepsT.get b h h'
      exact ⟨D, h1, fun c => by have := h2 c; rw [s c]; omega⟩
theorem FzK.get {F : Hp} {k : Key} {kvs : List (PyData × PyData)} {ks : List (Key × V)} {x : PyData} {v : V} (h : FzK F kvs ks) (e : dget kvs (keyPy k) = some x) (e' : valV ks k = some v) : Fz F x v := by
  obtain ⟨B, h1, _⟩ := RepsK.get (R := Rep F F 0) (A := fun _ => 0) (repsK_iff.mpr ⟨(fzK_iff.mp h).1, reps0_of (fzK_iff.mp h).2⟩) e e'
  exact h1.1
theorem FzT.get {F : Hp} {k : List Key} {kvs : List (PyData × PyData)} {ks : List (List Key × V)} {x : PyData} {v : V} (h : FzT F kvs ks) (e : dget kvs (tkeyPy k) = some x) (e' : valV ks k = some v) : Fz F x v := by
  obtain ⟨B, h1, _⟩ := RepsT.get (R := Rep F F 0) (A := fun _ => 0) (repsT_iff.mpr ⟨(fzT_iff.mp h).1, reps0_of (fzT_iff.mp h).2⟩) e e'
  exact h1.1
theorem rd_inj {H : Hp} {a : Addr} {u w : HO} (h : Rd H a u) (h' : Rd H a w) (n : ∀ o v, u ≠ .frz o v) (n' : ∀ o v, w ≠ .frz o v) : u = w := by
  rcases h with h | ⟨o, h⟩ <;> rcases h' with h' | ⟨o', h'⟩ <;> rw [h] at h'
  · exact Option.some.inj h'
  · exact absurd (Option.some.inj h') (n _ _)
  · exact absurd (Option.some.inj h').symm (n' _ _)
  · have := Option.some.inj h'
    injection this
/-- what a thing looks like from outside -/
def Face (H : Hp) (xs : List PyData) (R : PyData → V → Prop) (x : V) : Prop := ∃ a vs, x = .ref a ∧ (Rd H a (.lst vs) ∨ H a = some (.tup vs)) ∧ vs.length = xs.length ∧ ∀ (k : Nat) (d : PyData) (v : V), xs[k]? = some d → vs[k]? = some v → R d v
theorem Face.it {xs : List PyData} {R : PyData → V → Prop} {x y v : V} {j : Int} {w : PyData} (f : Face H xs R x) (e : atD xs j = some w) (hy : y = .int j) (it : It H x y v) : R w v := by
  obtain ⟨a, vs, rfl, h1, hl, g⟩ := f
  subst hy
  rw [atD_atI] at e
  have same : ∀ {ws : List V}, (Rd H a (.lst ws) ∨ H a = some (.tup ws)) → ws = vs := fun {ws} h => by
    rcases h with h | h <;> rcases h1 with h1 | h1
    · have := rd_inj h h1 (fun _ _ z => nomatch z) (fun _ _ z => nomatch z)
      injection this
    · have := rd_inj h (.inl h1) (fun _ _ z => nomatch z) (fun _ _ z => nomatch z)
      cases this
    · have := rd_inj (.inl h) h1 (fun _ _ z => nomatch z) (fun _ _ z => nomatch z)
      cases this
    · rw [h] at h1; cases h1; rfl
  rcases it with ⟨b, ws, j', e1, e2, h, e3⟩ | ⟨z, j', c, e1, _⟩ | ⟨b, e1, g'⟩
  · cases e1; cases e2
    cases same h
    obtain ⟨k, v', e4, e5, e6⟩ := atI_len hl.symm j e
    rw [e3] at e4; cases e4
    exact g k w v e5 e6
  · cases e1
  · cases e1
    rcases g' with ⟨kvs, k, r, ey, _⟩ | ⟨kvs, k, b', r, ey, _⟩
    · rcases h1 with h1 | h1
      · have := rd_inj h1 r (fun _ _ z => nomatch z) (fun _ _ z => nomatch z)
        cases this
      · have := rd_inj (.inl h1) r (fun _ _ z => nomatch z) (fun _ _ z => nomatch z)
        cases this
    · cases ey
theorem it_dict {kvs : List (PyData × PyData)} {i w : PyData} {a : Addr} {y v : V} {PK : List (Key × V) → Prop} {PT : List (List Key × V) → Prop} {R : Prop} (it : It H (.ref a) y v) (hy : DR H i y) (hk : keyOk kvs i = true) (hw : dget kvs i = some w)
    (h : (∃ ks, Rd H a (.dK ks) ∧ PK ks) ∨ ∃ ks, Rd H a (.dT ks) ∧ PT ks) (fK : ∀ ks k, PK ks → dget kvs (keyPy k) = some w → valV ks k = some v → R) (fT : ∀ ks k, PT ks → dget kvs (tkeyPy k) = some w → valV ks k = some v → R) : R := by
  have nseq : ∀ ws, ¬ (Rd H a (.lst ws) ∨ H a = some (.tup ws)) := fun ws q => by
    rcases h with ⟨ks, h, _⟩ | ⟨ks, h, _⟩ <;> rcases q with q | q
    · cases rd_inj h q (fun _ _ z => nomatch z) (fun _ _ z => nomatch z)
    · cases rd_inj h (.inl q) (fun _ _ z => nomatch z) (fun _ _ z => nomatch z)
    · cases rd_inj h q (fun _ _ z => nomatch z) (fun _ _ z => nomatch z)
    · cases rd_inj h (.inl q) (fun _ _ z => nomatch z) (fun _ _ z => nomatch z)
  have keyK : ∀ k, y = kV k → i = keyPy k := fun k e => by
    unfold keyOk at hk
    rcases Bool.or_eq_true_iff.mp hk with hk | hk
    · obtain ⟨q, rfl⟩ := leaf_key (and_t hk).1
      have := kV_of hy
      rw [e] at this
      rw [kV_inj this]
    · obtain ⟨q, rfl⟩ := tup_key (and_t hk).1
      obtain ⟨b, vs, e', _⟩ := hy
      rw [e] at e'
      cases k <;> cases e'
  have keyT : ∀ k b, y = .ref b → H b = some (.tup (k.map kV)) → i = tkeyPy k := fun k b e eb => by
    unfold keyOk at hk
    rcases Bool.or_eq_true_iff.mp hk with hk | hk
    · obtain ⟨q, rfl⟩ := leaf_key (and_t hk).1
      have := kV_of hy
      rw [e] at this
      cases q <;> cases this
    · obtain ⟨q, rfl⟩ := tup_key (and_t hk).1
      obtain ⟨b', vs, e', hb, f⟩ := hy
      rw [e] at e'
      cases e'
      rw [eb] at hb
      have e2 := kVs_of f
      injection hb with hb
      injection hb with hb
      rw [← hb] at e2
      have inj : ∀ {p r : List Key}, p.map kV = r.map kV → p = r := by
        intro p
        induction p with
        | nil => intro r e; cases r with
          | nil => rfl
          | cons _ _ => cases e
        | cons a p ih => intro r e; cases r with
          | nil => cases e
          | cons b r =>
            rw [List.map_cons, List.map_cons] at e
            injection e with e1 e2
            rw [kV_inj e1, ih e2]
      rw [inj e2]
  rcases it with ⟨b, ws, j', e1, e2, q, e3⟩ | ⟨z, j', c, e1, _⟩ | ⟨b, e1, g'⟩
  · cases e1
    exact (nseq ws q).elim
  · cases e1
  · cases e1
    rcases g' with ⟨kvs', k, r, ey, ev⟩ | ⟨kvs', k, b', r, ey, eb, ev⟩
    · have := keyK k ey
      subst this
      rcases h with ⟨ks, h, p⟩ | ⟨ks, h, p⟩
      · have := rd_inj h r (fun _ _ z => nomatch z) (fun _ _ z => nomatch z)
        injection this with this
        subst this
        exact fK _ k p hw ev.symm
      · cases rd_inj h r (fun _ _ z => nomatch z) (fun _ _ z => nomatch z)
    · have := keyT k b' ey eb
      subst this
      rcases h with ⟨ks, h, p⟩ | ⟨ks, h, p⟩
      · cases rd_inj h r (fun _ _ z => nomatch z) (fun _ _ z => nomatch z)
      · have := rd_inj h r (fun _ _ z => nomatch z) (fun _ _ z => nomatch z)
        injection this with this
        subst this
        exact fT _ k p hw ev.symm
theorem str_it {z : PySem.Str} {j : Int} {c : Nat} {y v : V} (hy : y = .int j) (e : atD z.cps.toList j = some c) (it : It H (.str z) y v) : v = .str ⟨#[c]⟩ := by
  subst hy
  rcases it with ⟨b, ws, j', e1, _⟩ | ⟨z', j', c', e1, e2, _, e3, e4⟩ | ⟨b, e1, _⟩
  · cases e1
  · cases e1; cases e2
    rw [atD_atI] at e
    rw [e3] at e; cases e
    exact e4
  · cases e1
theorem DK.item {F : Hp} (fk : FOk F H) {d i w : PyData} {x y v : V} (h : DK F H d x) (hy : DR H i y) (e : itemOf d i = some w) (it : It H x y v) : Fz F w v := by
  unfold itemOf at e
  split at e
  · split at e
    · obtain ⟨a, vs, rfl, h1, h2⟩ := h
      exact Face.it (R := Fz F) ⟨a, vs, rfl, .inl h1, h2.len, fun k d v e1 e2 => Fzs.get h2 e1 e2⟩ e hy it
    · cases e
  · split at e
    · obtain ⟨a, vs, rfl, h1, h2⟩ := h
      exact Face.it (R := Fz F) ⟨a, vs, rfl, .inr (fk _ _ h1), h2.len, fun k d v e1 e2 => Fzs.get h2 e1 e2⟩ e hy it
    · cases e
  · split at e
    · split at e
      · split at e
        · rename_i hc
          cases e
          cases (show x = _ from h)
          exact str_it hy hc it
        · cases e
      · cases e
    · cases e
  · split at e
    · rename_i kvs hk
      obtain ⟨a, rfl, h⟩ := h
      exact it_dict it hy hk e h (fun ks k p e1 e2 => FzK.get p e1 e2) (fun ks k p e1 e2 => FzT.get p e1 e2)
    · cases e
  · cases e
theorem Rep.item {F : Hp} (fk : FOk F H) {k : Nat} {d i w : PyData} {x y v : V} {A : Ft} (h : Rep F H k d x A) (hy : DR H i y) (e : itemOf d i = some w) (it : It H x y v) : ∃ B, Rep F H (k - 1) w v B ∧ ∀ a, B a ≤ A a := by
  cases k with
  | zero => exact ⟨fun _ => 0, ⟨DK.item fk (DK.of_fz fk h.1) hy e it, fun _ => rfl⟩, fun _ => Nat.zero_le _⟩
  | succ k =>
    show ∃ B, Rep F H k w v B ∧ ∀ a, B a ≤ A a
    unfold itemOf at e
    split at e
    · split at e
      · obtain ⟨a, vs, B, rfl, h1, h0, h2, s⟩ := h
        have hl : vs.length = _ := (Reps.drs (fun _ _ _ r => Rep.dr fk _ _ _ _ r) h2).len
        refine Face.it (R := fun w v => ∃ B, Rep F H k w v B ∧ ∀ a, B a ≤ A a) ⟨a, vs, rfl, .inl (.inl h1), hl, fun n d v e1 e2 => ?_⟩ e hy it
        obtain ⟨C, c1, c2⟩ := Reps.get h2 e1 e2
        exact ⟨C, c1, fun b => by have := c2 b; rw [s b]; omega⟩
      · cases e
    · split at e
      · obtain ⟨a, vs, rfl, h1, h2⟩ := h
        have hl : vs.length = _ := (Reps.drs (fun _ _ _ r => Rep.dr fk _ _ _ _ r) h2).len
        exact Face.it (R := fun w v => ∃ B, Rep F H k w v B ∧ ∀ a, B a ≤ A a) ⟨a, vs, rfl, .inr (fk _ _ h1), hl, fun n d v e1 e2 => Reps.get h2 e1 e2⟩ e hy it
      · cases e
    · split at e
      · split at e
        · split at e
          · rename_i hc
            cases e
            cases (show x = _ from h.1)
            have := str_it hy hc it
            subst this
            exact ⟨fun _ => 0, Fz.rep_imm k _ _ rfl rfl, fun _ => Nat.zero_le _⟩
          · cases e
        · cases e
      · cases e
    · split at e
      · rename_i kvs hk
        obtain ⟨a, B, rfl, h0, h, s⟩ := h
        have up : ∀ {C : Ft}, (∀ b, C b ≤ B b) → ∀ b, C b ≤ A b := fun h b => by have := h b; rw [s b]; omega
        refine it_dict (PK := fun ks => RepsK (Rep F H k) kvs ks B) (PT := fun ks => RepsT (Rep F H k) kvs ks B) it hy hk e ?_ (fun ks q p e1 e2 => ?_) (fun ks q p e1 e2 => ?_)
        · rcases h with ⟨ks, h, p⟩ | ⟨ks, h, p⟩
          · exact .inl ⟨ks, .inl h, p⟩
          · exact .inr ⟨ks, .inl h, p⟩
        · obtain ⟨C, c1, c2⟩ := RepsK.get p e1 e2
          exact ⟨C, c1, up c2⟩
        · obtain ⟨C, c1, c2⟩ := RepsT.get p e1 e2
          exact ⟨C, c1, up c2⟩
      · cases e
    · cases e
end
end PD
end
section
/-! PD11: what is changed: lists, dicts. -/
namespace PD
open PySem PySem.Spec PyProof.Rows L2

theorem Go.sum {F H F' : Hp} {A A' : Ft} (e : Exr F H F' A A') (B : Ft) (ap : ∀ a, A a + B a ≤ 1) : Go F H (fun a => A a + B a) F' H (fun a => A' a + B a) :=
  ⟨e.sub, fun _ _ _ h => h, fun _ _ _ => rfl, fun a z => .inl (by have := e.le a; have z' : A' a + B a ≠ 0 := z; show A a + B a ≠ 0; omega), fun a z => .inl (by have := (e.new a z).1; show A a + B a ≠ 0; omega)⟩
section
variable {F H : Hp} {σ : L2.St} {ρ : Sts} {A B : Ft} {i k : Nat} {d : PyData} {v : Vl} {y : V}
/-- one level for a thing and what is put into it -/
theorem Ok.meet (ok : Ok F H σ ρ A) (e : ρ[i]? = some (.val (k + 1) d)) (r : Rep F H v.1 v.2 y B) (le : ∀ a, A a + B a ≤ 1) :
    ∃ j F' A' B', setKid (k + 1) v = j + 1 ∧ Go F H (fun a => A a + B a) F' H (fun a => A' a + B' a) ∧ Ok F' H σ (ρ.set i (.val (j + 1) d)) A' ∧ Rep F' H j v.2 y B' ∧ ∀ a, A' a + B' a ≤ 1 := by
  unfold setKid
  split
  · rename_i hi
    obtain ⟨f1, f2⟩ := Rep.fz_imm _ _ _ _ hi r
    refine ⟨k, F, A, fun _ => 0, rfl, ?_, by rw [set_self e]; exact ok, Fz.rep_imm k _ _ hi f1, fun a => by have := le a; show A a + 0 ≤ 1; omega⟩
    exact (Go.refl F H _).less fun a z => by have z' : A a + 0 ≠ 0 := z; show A a + B a ≠ 0; omega
  · split
    · rename_i hlt
      obtain ⟨x, F', A', C, e1, rx, ex, ok', la⟩ := ok.lowS e (show v.1 + 1 ≤ k + 1 by omega)
      refine ⟨v.1, F', A', B, rfl, Go.sum ex B le, ok', Rep.mono _ _ _ _ (ex.kp fun a z => by have := le a; omega) r, fun a => by have := ex.le a; have := le a; omega⟩
    · rename_i hlt
      obtain ⟨F', B', r', ex, ok'⟩ := ok.lowT r le (show k ≤ v.1 by omega)
      refine ⟨k, F', A, B', rfl, ?_, by rw [set_self e]; exact ok', r', fun a => by have := ex.le a; have := le a; omega⟩
      have g := Go.sum ex A fun a => by have := le a; omega
      exact ⟨g.ex, g.fz, fun a z n => g.fr a (by have z' : A a + B a = 0 := z; show B a + A a = 0; omega) n, fun a z => (g.nw a (by have z' : A a + B' a ≠ 0 := z; show B' a + A a ≠ 0; omega)).imp (fun q => by have q' : B a + A a ≠ 0 := q; show A a + B a ≠ 0; omega) _root_.id,
        fun a z => (g.nf a z).imp (fun q => by have q' : B a + A a ≠ 0 := q; show A a + B a ≠ 0; omega) _root_.id⟩
/-- the list in a slot -/
theorem Ok.lstAt {xs : List PyData} (ok : Ok F H σ ρ A) (e : ρ[i]? = some (.val (k + 1) (.list xs))) : ∃ a vs, σ[i]? = some (some (.ref a)) ∧ H a = some (.lst vs) ∧ vs.length = xs.length := by
  obtain ⟨o, B, C, e1, h1, h2, h3⟩ := RepS.focus ok.rep e
  obtain ⟨x, rfl, a, vs, D, rfl, hH, hF, r, s⟩ := h1
  exact ⟨a, vs, e1, hH, (Reps.drs (fun _ _ _ r => Rep.dr ok.fok _ _ _ _ r) r).len⟩
/-- it is changed, with what B holds -/
theorem Ok.lstMut {j : Nat} {xs xs' : List PyData} {vs vs' : List V} {a : Addr} {PB : Ft → Prop} (ok : Ok F H σ ρ A) (e : ρ[i]? = some (.val (j + 1) (.list xs))) (ea : σ[i]? = some (some (.ref a))) (eH : H a = some (.lst vs)) (le : ∀ b, A b + B b ≤ 1)
    (bl : ∀ b, B b ≠ 0 → H b ≠ none) (h : ∀ C, Reps (Rep F H j) xs vs C → (∀ b, C b + B b ≤ 1) → ∃ C' B', Reps (Rep F H j) xs' vs' C' ∧ PB B' ∧ ∀ b, C' b + B' b ≤ C b + B b) :
    ∃ A' B', PB B' ∧ Go F H (fun b => A b + B b) F (upd H a (.lst vs')) (fun b => A' b + B' b) ∧ Ok F (upd H a (.lst vs')) σ (ρ.set i (.val (j + 1) (.list xs'))) A' ∧ (∀ b, A' b + B' b ≤ 1) ∧ Kp F H F (upd H a (.lst vs')) B' := by
  obtain ⟨o, D, C, e1, h1, h2, h3⟩ := RepS.focus ok.rep e
  obtain ⟨x, rfl, a', vs2, K, rfl, hH, hF, r, s⟩ := h1
  rw [ea] at e1
  cases e1
  rw [eH] at hH
  cases hH
  have one := ok.one
  obtain ⟨K', B', r', pb, q⟩ := h K r fun b => by have := le b; rw [h2 b, s b] at this; omega
  have zero : C a = 0 ∧ K a = 0 ∧ B a = 0 := by have := le a; have h := h2 a; rw [s a, sg_same] at h; omega
  have zK : K' a = 0 ∧ B' a = 0 := by have := q a; omega
  have ne : ∀ {Z : Ft}, Z a = 0 → ∀ b, Z b ≠ 0 → b ≠ a := fun z b n e => n (e ▸ z)
  have keep : ∀ {Z : Ft}, Z a = 0 → Kp F H F (upd H a (.lst vs')) Z := fun z => ⟨Sub.refl F, fun b n => upd_ne (ne z b n), fun b _ f => f⟩
  have fk : FOk F (upd H a (.lst vs')) := fun b u eb => rt_keep (upd_ne fun z => by rw [z, hF] at eb; cases eb) (ok.fok b u eb)
  refine ⟨fun b => sg a b + K' b + C b, B', pb, ⟨Sub.refl F, fun b o u h => (upd_ne fun e => by rw [e, eH] at h; cases h).trans h, fun b z n => upd_ne fun e => ?_, fun b z => ?_, fun b z => absurd rfl z⟩, ⟨fk, ?_, fun b => ?_⟩, fun b => ?_, keep zK.2⟩
  · subst e
    have z' : A b + B b = 0 := z
    have h' := h2 b
    rw [s b, sg_same] at h'
    omega
  · left
    have z' : sg a b + K' b + C b + B' b ≠ 0 := z
    have q' := q b
    have h' := h2 b
    rw [s b] at h'
    show A b + B b ≠ 0
    omega
  · have := h3 F (upd H a (.lst vs')) (.val (j + 1) (.list xs')) (some (.ref a)) (fun b => sg a b + K' b) (fun b => sg a b + K' b + C b) (keep zero.1)
      ⟨.ref a, rfl, a, vs', K', rfl, upd_same, hF, Reps.imp (fun x w Z _ hz => Rep.mono j x w Z (keep (by have := hz a; omega))) r', fun b => rfl⟩ (fun b => rfl)
    rw [set_self ea] at this
    exact this
  · have q' := q b
    have h' := h2 b
    have l' := le b
    rw [s b] at h'
    show sg a b + K' b + C b ≤ 1
    omega
  · have q' := q b
    have h' := h2 b
    have l' := le b
    rw [s b] at h'
    show sg a b + K' b + C b + B' b ≤ 1
    omega
theorem Reps.app1 {R : PyData → V → Ft → Prop} {w : PyData} {y : V} {B : Ft} (h : R w y B) : ∀ {xs : List PyData} {vs : List V} {C : Ft}, Reps R xs vs C → Reps R (xs ++ [w]) (vs ++ [y]) (fun b => C b + B b)
  | [], _, _, ⟨e, z⟩ => by subst e; exact ⟨y, [], B, fun _ => 0, rfl, h, ⟨rfl, fun _ => rfl⟩, fun b => by have := z b; show _ + B b = B b + 0; omega⟩
  | x :: xs, _, _, ⟨v, r, D, E, e, h1, h2, h3⟩ => by
    subst e
    exact ⟨v, _, D, _, rfl, h1, Reps.app1 h h2, fun b => by have := h3 b; show _ + B b = D b + (E b + B b); omega⟩
theorem Reps.set1 {R : PyData → V → Ft → Prop} {w : PyData} {y : V} {B : Ft} (h : R w y B) : ∀ {xs : List PyData} {vs : List V} {C : Ft} (n : Nat), n < xs.length → Reps R xs vs C → ∃ C', Reps R (xs.set n w) (vs.set n y) C' ∧ ∀ b, C' b ≤ C b + B b
  | [], _, _, _, hn, _ => absurd hn (by simp)
  | x :: xs, _, _, 0, _, ⟨v, r, D, E, e, h1, h2, h3⟩ => by
    subst e
    exact ⟨fun b => B b + E b, ⟨y, r, B, E, rfl, h, h2, fun b => rfl⟩, fun b => by show B b + E b ≤ _; rw [h3 b]; omega⟩
  | x :: xs, _, _, n + 1, hn, ⟨v, r, D, E, e, h1, h2, h3⟩ => by
    subst e
    obtain ⟨C', c1, c2⟩ := Reps.set1 h n (by simpa using hn) h2
    exact ⟨fun b => D b + C' b, ⟨v, _, D, C', rfl, h1, c1, fun b => rfl⟩, fun b => by have := c2 b; show D b + C' b ≤ _; rw [h3 b]; omega⟩
theorem Reps.del1 {R : PyData → V → Ft → Prop} : ∀ {xs : List PyData} {vs : List V} {C : Ft} (n : Nat) {w : PyData} {y : V}, xs[n]? = some w → vs[n]? = some y → Reps R xs vs C → ∃ C' B, Reps R (xs.eraseIdx n) (vs.eraseIdx n) C' ∧ R w y B ∧ ∀ b, C b = C' b + B b
  | [], _, _, _, _, _, hn, _, _ => by simp at hn
  | x :: xs, _, _, 0, w, y, hn, hv, ⟨v, r, D, E, e, h1, h2, h3⟩ => by
    subst e
    simp at hn hv
    subst hn hv
    exact ⟨E, D, h2, h1, fun b => by rw [h3 b]; omega⟩
  | x :: xs, _, _, n + 1, w, y, hn, hv, ⟨v, r, D, E, e, h1, h2, h3⟩ => by
    subst e
    obtain ⟨C', B, c1, c2, c3⟩ := Reps.del1 n (by simpa using hn) (by simpa using hv) h2
    exact ⟨fun b => D b + C' b, B, ⟨v, _, D, C', rfl, h1, c1, fun b => rfl⟩, c2, fun b => by rw [h3 b, c3 b]; show _ = D b + C' b + B b; omega⟩
/-! dicts -/
theorem RepsK.put {R : PyData → V → Ft → Prop} {q : Key} {w : PyData} {y : V} {B : Ft} (h : R w y B) {kvs : List (PyData × PyData)} {ks : List (Key × V)} {C : Ft} (r : RepsK R kvs ks C) (nd : (ks.map (·.1)).Nodup) :
    ∃ C', RepsK R (dput kvs (keyPy q) w) (putK ks q y) C' ∧ ∀ b, C' b ≤ C b + B b := by
  have key : ∀ {kvs : List (PyData × PyData)} {ks : List (Key × V)} {C : Ft}, RepsK R kvs ks C → ((ks.any fun kv => decide (kv.1 = q)) = false → ∃ C', RepsK R (dput kvs (keyPy q) w) (ks ++ [(q, y)]) C' ∧ ∀ b, C' b ≤ C b + B b) ∧
      ((ks.map (·.1)).Nodup → (ks.any fun kv => decide (kv.1 = q)) = true → ∃ C', RepsK R (dput kvs (keyPy q) w) (ks.map fun kv => if kv.1 = q then (kv.1, y) else kv) C' ∧ ∀ b, C' b ≤ C b + B b) := by
    intro kvs
    induction kvs with
    | nil =>
      intro ks C ⟨e, z⟩
      subst e
      exact ⟨fun _ => ⟨B, ⟨q, y, [], B, fun _ => 0, rfl, rfl, h, ⟨rfl, fun _ => rfl⟩, fun b => rfl⟩, fun b => by omega⟩, fun _ z => nomatch z⟩
    | cons p r ih =>
      intro ks C ⟨j, v, t, D, E, e, ej, h1, h2, h3⟩
      obtain ⟨pj, x⟩ := p
      simp only at ej h1
      subst e ej
      obtain ⟨i1, i2⟩ := ih h2
      unfold dput
      rw [keyEq_leaf]
      by_cases e : j = q
      · subst e
        rw [if_pos (decide_eq_true rfl)]
        refine ⟨fun z => ?_, fun nd _ => ?_⟩
        · simp at z
        · rw [List.map_cons, List.nodup_cons] at nd
          rw [List.map_cons, if_pos rfl]
          have same : (t.map fun kv => if kv.1 = j then (kv.1, y) else kv) = t := by
            conv => rhs; rw [← List.map_id t]
            refine List.map_congr_left fun p hp => ?_
            rw [if_neg fun e => nd.1 (List.mem_map.mpr ⟨p, hp, e⟩)]
            rfl
          rw [same]
          exact ⟨fun b => B b + E b, ⟨j, y, t, B, E, rfl, rfl, h, h2, fun b => rfl⟩, fun b => by show B b + E b ≤ _; rw [h3 b]; omega⟩
      · rw [if_neg (by simpa using e)]
        refine ⟨fun z => ?_, fun nd z => ?_⟩
        · rw [List.any_cons, Bool.or_eq_false_iff] at z
          obtain ⟨C', c1, c2⟩ := i1 z.2
          exact ⟨fun b => D b + C' b, ⟨j, v, _, D, C', rfl, rfl, h1, c1, fun b => rfl⟩, fun b => by have := c2 b; show D b + C' b ≤ _; rw [h3 b]; omega⟩
        · rw [List.map_cons, List.nodup_cons] at nd
          rw [List.any_cons, decide_eq_false e, Bool.false_or] at z
          rw [List.map_cons, if_neg e]
          obtain ⟨C', c1, c2⟩ := i2 nd.2 z
          exact ⟨fun b => D b + C' b, ⟨j, v, _, D, C', rfl, rfl, h1, c1, fun b => rfl⟩, fun b => by have := c2 b; show D b + C' b ≤ _; rw [h3 b]; omega⟩
  unfold putK
  split
  · rename_i e
    exact (key r).2 nd e
  · rename_i e
    exact (key r).1 (by cases z : (ks.any fun kv => decide (kv.1 = q)) <;> first | rfl | exact absurd z e)
theorem RepsT.put {R : PyData → V → Ft → Prop} {q : List Key} {w : PyData} {y : V} {B : Ft} (h : R w y B) {kvs : List (PyData × PyData)} {ks : List (List Key × V)} {C : Ft} (r : RepsT R kvs ks C) (nd : (ks.map (·.1)).Nodup) :
    ∃ C', RepsT R (dput kvs (tkeyPy q) w) (putK ks q y) C' ∧ ∀ b, C' b ≤ C b + B b := by
  have key : ∀ {kvs : List (PyData × PyData)} {ks : List (List Key × V)} {C : Ft}, RepsT R kvs ks C → ((ks.any fun kv => decide (kv.1 = q)) = false → ∃ C', RepsT R (dput kvs (tkeyPy q) w) (ks ++ [(q, y)]) C' ∧ ∀ b, C' b ≤ C b + B b) ∧
      ((ks.map (·.1)).Nodup → (ks.any fun kv => decide (kv.1 = q)) = true → ∃ C', RepsT R (dput kvs (tkeyPy q) w) (ks.map fun kv => if kv.1 = q then (kv.1, y) else kv) C' ∧ ∀ b, C' b ≤ C b + B b) := by
    intro kvs
    induction kvs with
    | nil =>
      intro ks C ⟨e, z⟩
      subst e
      exact ⟨fun _ => ⟨B, ⟨q, y, [], B, fun _ => 0, rfl, rfl, h, ⟨rfl, fun _ => rfl⟩, fun b => rfl⟩, fun b => by omega⟩, fun _ z => nomatch z⟩
    | cons p r ih =>
      intro ks C ⟨j, v, t, D, E, e, ej, h1, h2, h3⟩
      obtain ⟨pj, x⟩ := p
      simp only at ej h1
      subst e ej
      obtain ⟨i1, i2⟩ := ih h2
      unfold dput
      rw [keyEq_tup]
      by_cases e : j = q
      · subst e
        rw [if_pos (decide_eq_true rfl)]
        refine ⟨fun z => ?_, fun nd _ => ?_⟩
        · simp at z
        · rw [List.map_cons, List.nodup_cons] at nd
          rw [List.map_cons, if_pos rfl]
          have same : (t.map fun kv => if kv.1 = j then (kv.1, y) else kv) = t := by
            conv => rhs; rw [← List.map_id t]
            refine List.map_congr_left fun p hp => ?_
            rw [if_neg fun e => nd.1 (List.mem_map.mpr ⟨p, hp, e⟩)]
            rfl
          rw [same]
          exact ⟨fun b => B b + E b, ⟨j, y, t, B, E, rfl, rfl, h, h2, fun b => rfl⟩, fun b => by show B b + E b ≤ _; rw [h3 b]; omega⟩
      · rw [if_neg (by simpa using e)]
        refine ⟨fun z => ?_, fun nd z => ?_⟩
        · rw [List.any_cons, Bool.or_eq_false_iff] at z
          obtain ⟨C', c1, c2⟩ := i1 z.2
          exact ⟨fun b => D b + C' b, ⟨j, v, _, D, C', rfl, rfl, h1, c1, fun b => rfl⟩, fun b => by have := c2 b; show D b + C' b ≤ _; rw [h3 b]; omega⟩
        · rw [List.map_cons, List.nodup_cons] at nd
          rw [List.any_cons, decide_eq_false e, Bool.false_or] at z
          rw [List.map_cons, if_neg e]
          obtain ⟨C', c1, c2⟩ := i2 nd.2 z
          exact ⟨fun b => D b + C' b, ⟨j, v, _, D, C', rfl, rfl, h1, c1, fun b => rfl⟩, fun b => by have := c2 b; show D b + C' b ≤ _; rw [h3 b]; omega⟩
  unfold putK
  split
  · rename_i e
    exact (key r).2 nd e
  · rename_i e
    exact (key r).1 (by cases z : (ks.any fun kv => decide (kv.1 = q)) <;> first | rfl | exact absurd z e)
/-- the dict in a slot -/
theorem Ok.dicAt {kvs : List (PyData × PyData)} (ok : Ok F H σ ρ A) (e : ρ[i]? = some (.val (k + 1) (.dict kvs))) : ∃ a, σ[i]? = some (some (.ref a)) ∧ F a = none ∧
    ((∃ ks C, H a = some (.dK ks) ∧ RepsK (Rep F H k) kvs ks C ∧ ks.length = kvs.length) ∨ ∃ ks C, H a = some (.dT ks) ∧ RepsT (Rep F H k) kvs ks C ∧ ks.length = kvs.length) := by
  obtain ⟨o, B, C, e1, h1, h2, h3⟩ := RepS.focus ok.rep e
  obtain ⟨x, rfl, a, D, rfl, hF, r, s⟩ := h1
  refine ⟨a, e1, hF, ?_⟩
  rcases r with ⟨ks, hH, r⟩ | ⟨ks, hH, r⟩
  · exact .inl ⟨ks, D, hH, r, (DRK.len (drK_iff.mpr ⟨(repsK_iff.mp r).1, Reps.drs (fun _ _ _ r => Rep.dr ok.fok _ _ _ _ r) (repsK_iff.mp r).2⟩))⟩
  · exact .inr ⟨ks, D, hH, r, (DRT.len (drT_iff.mpr ⟨(repsT_iff.mp r).1, Reps.drs (fun _ _ _ r => Rep.dr ok.fok _ _ _ _ r) (repsT_iff.mp r).2⟩))⟩
/-- it is changed, with what B holds -/
theorem Ok.dicMut {j : Nat} {kvs kvs' : List (PyData × PyData)} {a : Addr} {u : HO} (ok : Ok F H σ ρ A) (e : ρ[i]? = some (.val (j + 1) (.dict kvs))) (ea : σ[i]? = some (some (.ref a))) (le : ∀ b, A b + B b ≤ 1) (bl : ∀ b, B b ≠ 0 → H b ≠ none)
    (h : ∀ C : Ft, (∀ b, C b + B b ≤ 1) → ((∃ ks, H a = some (.dK ks) ∧ RepsK (Rep F H j) kvs ks C) ∨ ∃ ks, H a = some (.dT ks) ∧ RepsT (Rep F H j) kvs ks C) →
      ∃ C', ((∃ ks, u = .dK ks ∧ RepsK (Rep F H j) kvs' ks C') ∨ ∃ ks, u = .dT ks ∧ RepsT (Rep F H j) kvs' ks C') ∧ ∀ b, C' b ≤ C b + B b) :
    ∃ A', Go F H (fun b => A b + B b) F (upd H a u) A' ∧ Ok F (upd H a u) σ (ρ.set i (.val (j + 1) (.dict kvs'))) A' := by
  obtain ⟨o, D, C, e1, h1, h2, h3⟩ := RepS.focus ok.rep e
  obtain ⟨x, rfl, a', K, rfl, hF, r, s⟩ := h1
  rw [ea] at e1
  cases e1
  have one := ok.one
  obtain ⟨K', r', q⟩ := h K (fun b => by have := le b; rw [h2 b, s b] at this; omega) r
  have zero : C a = 0 ∧ K a = 0 ∧ B a = 0 := by have := le a; have h := h2 a; rw [s a, sg_same] at h; omega
  have zK : K' a = 0 := by have := q a; omega
  have keep : ∀ {Z : Ft}, Z a = 0 → Kp F H F (upd H a u) Z := fun z => ⟨Sub.refl F, fun b n => upd_ne fun e => n (e ▸ z), fun b _ f => f⟩
  have fk : FOk F (upd H a u) := fun b w eb => rt_keep (upd_ne fun z => by rw [z, hF] at eb; cases eb) (ok.fok b w eb)
  refine ⟨fun b => sg a b + K' b + C b, ⟨Sub.refl F, fun b o w h => (upd_ne fun e => by
    rw [e] at h
    rcases r with ⟨_, q, _⟩ | ⟨_, q, _⟩ <;> (rw [q] at h; cases h)).trans h, fun b z n => upd_ne fun e => ?_, fun b z => ?_, fun b z => absurd rfl z⟩, ⟨fk, ?_, fun b => ?_⟩⟩
  · subst e
    have z' : A b + B b = 0 := z
    have h' := h2 b
    rw [s b, sg_same] at h'
    omega
  · left
    have z' : sg a b + K' b + C b ≠ 0 := z
    have q' := q b
    have h' := h2 b
    rw [s b] at h'
    show A b + B b ≠ 0
    omega
  · have := h3 F (upd H a u) (.val (j + 1) (.dict kvs')) (some (.ref a)) (fun b => sg a b + K' b) (fun b => sg a b + K' b + C b) (keep zero.1)
      ⟨.ref a, rfl, a, K', rfl, hF, ?_, fun b => rfl⟩ (fun b => rfl)
    · rw [set_self ea] at this
      exact this
    · rcases r' with ⟨ks, rfl, r'⟩ | ⟨ks, rfl, r'⟩
      · exact .inl ⟨ks, upd_same, RepsK.imp (fun x w Z hz => Rep.mono j x w Z (keep (by have := hz a; omega))) r'⟩
      · exact .inr ⟨ks, upd_same, RepsT.imp (fun x w Z hz => Rep.mono j x w Z (keep (by have := hz a; omega))) r'⟩
  · have q' := q b
    have h' := h2 b
    have l' := le b
    rw [s b] at h'
    show sg a b + K' b + C b ≤ 1
    omega
/-- x[i] = v, by values -/
def rSetP : TSet := fun o i v H Q => ∃ a, o = .ref a ∧
  ((∃ vs j n, H a = some (.lst vs) ∧ i = .int j ∧ ixN vs.length j = some n ∧ Q (upd H a (.lst (vs.set n v)))) ∨
  (∃ ks k, H a = some (.dK ks) ∧ i = kV k ∧ ks.length < sizeLine ∧ ((ks.map (·.1)).Nodup → Q (upd H a (.dK (putK ks k v))))) ∨
  (∃ ks k b, H a = some (.dT ks) ∧ i = .ref b ∧ H b = some (.tup (k.map kV)) ∧ ks.length < sizeLine ∧ ((ks.map (·.1)).Nodup → Q (upd H a (.dT (putK ks k v))))) ∨
  (∃ (k : List Key) (b : Addr), H a = some (.dK []) ∧ i = .ref b ∧ H b = some (.tup (k.map kV)) ∧ Q (upd H a (.dT (putK [] k v)))) ∨
  (∃ k, H a = some (.dT []) ∧ i = kV k ∧ Q (upd H a (.dK (putK [] k v)))))
theorem nodup_K {X : Cx} {pins : List (Addr × Obj)} {σ : L2.St} {H : Hp} {s : Shared} (I : Inv X pins σ H s) {a : Addr} {ks : List (Key × V)} (h : H a = some (.dK ks)) : (ks.map (·.1)).Nodup := by
  obtain ⟨_, _, vs, kv, _, _, _, _, _, _, _, _, nd⟩ := dk_of I.hok h
  rw [kv.keys]
  exact nd
theorem kt_keys {H : Hp} {ks : List (List Key × V)} {xs : List (List Key × Addr × Value)} (kt : KT H ks xs) : ks.map (·.1) = xs.map (·.1) := by
  unfold KT at kt
  induction kt with
  | nil => rfl
  | cons r _ ih => rw [List.map_cons, List.map_cons, ih, r.1]
theorem nodup_T {X : Cx} {pins : List (Addr × Obj)} {σ : L2.St} {H : Hp} {s : Shared} (I : Inv X pins σ H s) {a : Addr} {ks : List (List Key × V)} (h : H a = some (.dT ks)) : (ks.map (·.1)).Nodup := by
  obtain ⟨_, _, xs, kt, _, _, _, _, _, _, _, _, nd⟩ := dt_of I.hok h
  rw [kt_keys kt]
  exact nd
theorem set_P {X : Cx} (hu : X.A.units + 1 < cLine) : PSet X rSetP := by
  intro pins s σ H o i v ov iv u Q I ro ri rv ⟨a, eo, h⟩
  subst eo
  rcases h with ⟨vs, j, n, h1, h2, h3, q⟩ | ⟨ks, k, h1, h2, h3, q⟩ | ⟨ks, k, b, h1, h2, h3, h4, q⟩ | ⟨k, b, h1, h2, h3, q⟩ | ⟨k, h1, h2, q⟩
  · exact set_list pins s σ H _ i v ov iv u Q I ro ri rv ⟨a, vs, j, n, rfl, h2, h1, h3, q⟩
  · exact set_dict hu pins s σ H _ i v ov iv u Q I ro ri rv ⟨a, _, rfl, .inl ⟨ks, k, h1, h2, h3, rfl⟩, q (nodup_K I h1)⟩
  · exact set_dict hu pins s σ H _ i v ov iv u Q I ro ri rv ⟨a, _, rfl, .inr ⟨ks, k, b, h1, h2, h3, h4, rfl⟩, q (nodup_T I h1)⟩
  · obtain ⟨hd, o, es, ep, e1, e2, e3, e4, e5, e6⟩ := hollowT I (.inl h1)
    have ne : b ≠ a := fun e => by rw [e, h1] at h3; cases h3
    have I' : Inv X pins σ (upd H a (.dT [])) s := I.write (x := a) (e := a) (t' := s.toks) (by rw [h1]; trivial) (.inl rfl) (fun _ _ _ q => q) ⟨o, e1⟩ ⟨Nat.zero_le _, hd, [], .nil, o, es, ep, e1, e2, e3, e4, e6⟩
    have := set_dict hu pins s σ _ _ i v ov iv u Q I' ro ri rv ⟨a, _, rfl, .inr ⟨[], k, b, upd_same, h2, by rw [upd_ne ne]; exact h3, by rw [sizeLine_eq]; decide, rfl⟩, by rw [upd_upd]; exact q⟩
    exact this
  · obtain ⟨hd, dd⟩ := hollowK I (.inl h1)
    obtain ⟨o, es, ep, e1, _⟩ := id dd
    have I' : Inv X pins σ (upd H a (.dK [])) s := I.write (x := a) (e := a) (t' := s.toks) (by rw [h1]; trivial) (.inl rfl) (fun _ _ _ q => q) ⟨o, e1⟩ ⟨Nat.zero_le _, hd, [], .nil, dd⟩
    have := set_dict hu pins s σ _ _ i v ov iv u Q I' ro ri rv ⟨a, _, rfl, .inl ⟨[], k, upd_same, h2, by rw [sizeLine_eq]; decide, rfl⟩, by rw [upd_upd]; exact q⟩
    exact this
/-! ### x[i] = v of the evaluator -/
section
variable {F H : Hp} {σ : L2.St} {ρ ρ' : Sts} {A B Z : Ft} {i : Nat} {dj : PyData} {v : Vl} {x jv y : V}
theorem mSet_ok {Q : Hp → Prop} (ok : Ok F H σ ρ A) (hs : mSet i dj v ρ = some (.ok () ρ')) (ei : σ[i]? = some (some x)) (hj : DR H dj jv) (r : Rep F H v.1 v.2 y B) (le : ∀ a, A a + B a ≤ 1)
    (h : ∀ F' H' A', Go F H (fun a => A a + B a) F' H' A' → Ok F' H' σ ρ' A' → Q H') : rSetP x jv y H Q := by
  unfold mSet at hs
  split at hs
  · rename_i k xs e
    split at hs
    · rename_i j
      split at hs
      · rename_i n hn
        cases hs
        cases (show jv = _ from hj)
        obtain ⟨j', F', A', B', ek, g, ok', r', le'⟩ := ok.meet e r le
        have e' : (ρ.set i (.val (j' + 1) (.list xs)))[i]? = some (.val (j' + 1) (.list xs)) := by
          rw [List.getElem?_set_self (List.getElem?_eq_some_iff.mp e).1]
        obtain ⟨a, vs, ea, eH, hl⟩ := ok'.lstAt e'
        rw [ei] at ea; cases ea
        have hn' : ixN vs.length j = some n := by rw [hl]; exact hn
        have lt : n < xs.length := by have := ixN_seq hn'; omega
        refine ⟨a, rfl, .inl ⟨vs, j, n, eH, rfl, hn', ?_⟩⟩
        obtain ⟨A2, B2, _, g2, ok2, _, _⟩ := ok'.lstMut (PB := fun _ => True) (xs' := xs.set n v.2) (vs' := vs.set n y) e' ei eH le' (fun b z => Rep.live _ _ _ _ r' b z) fun C rc _ => by
          obtain ⟨C', c1, c2⟩ := Reps.set1 r' n lt rc
          exact ⟨C', fun _ => 0, c1, trivial, fun b => by have := c2 b; show C' b + 0 ≤ _; omega⟩
        rw [List.set_set, ← ek] at ok2
        exact h F' _ A2 (g.trans (g2.less fun a z => by show A2 a + B2 a ≠ 0; omega)) ok2
      · cases hs
    · cases hs
  · rename_i k kvs e
    split at hs
    · rename_i hc
      cases hs
      obtain ⟨hk, hl⟩ := and_t hc
      have hl := of_decide_eq_true hl
      obtain ⟨j', F', A', B', ek, g, ok', r', le'⟩ := ok.meet e r le
      have e' : (ρ.set i (.val (j' + 1) (.dict kvs)))[i]? = some (.val (j' + 1) (.dict kvs)) := by
        rw [List.getElem?_set_self (List.getElem?_eq_some_iff.mp e).1]
      obtain ⟨a, ea, hF, hd⟩ := ok'.dicAt e'
      rw [ei] at ea; cases ea
      have fin : ∀ {u : HO} {A2 : Ft}, Go F' H (fun b => A' b + B' b) F' (upd H a u) A2 → Ok F' (upd H a u) σ ((ρ.set i (.val (j' + 1) (.dict kvs))).set i (.val (j' + 1) (.dict (dput kvs dj v.2)))) A2 → Q (upd H a u) := fun {u A2} g2 ok2 => by
        rw [List.set_set, ← ek] at ok2
        exact h F' _ A2 (g.trans g2) ok2
      have live : ∀ b, B' b ≠ 0 → H b ≠ none := fun b z => Rep.live _ _ _ _ r' b z
      refine ⟨a, rfl, ?_⟩
      unfold keyOk at hk
      rcases Bool.or_eq_true_iff.mp hk with hk | hk
      · obtain ⟨k1, k2⟩ := and_t hk
        obtain ⟨q, rfl⟩ := leaf_key k1
        obtain rfl := kV_of hj
        rcases hd with ⟨ks, C, eH, _, len⟩ | ⟨ks, C, eH, rt, len⟩
        · refine .inr (.inl ⟨ks, q, eH, rfl, by omega, fun nd => ?_⟩)
          obtain ⟨A2, g2, ok2⟩ := ok'.dicMut (u := .dK (putK ks q y)) (kvs' := dput kvs (keyPy q) v.2) e' ei le' live fun C _ rc => by
            rcases rc with ⟨ks', eH', rc⟩ | ⟨ks', eH', rc⟩
            · rw [eH] at eH'; cases eH'
              obtain ⟨C', c1, c2⟩ := RepsK.put r' rc nd
              exact ⟨C', .inl ⟨_, rfl, c1⟩, c2⟩
            · rw [eH] at eH'; cases eH'
          exact fin g2 ok2
        · cases kvs with
          | nil =>
            obtain ⟨rfl, _⟩ := (show ks = [] ∧ _ from rt)
            refine .inr (.inr (.inr (.inr ⟨q, eH, rfl, ?_⟩)))
            obtain ⟨A2, g2, ok2⟩ := ok'.dicMut (u := .dK (putK [] q y)) (kvs' := dput [] (keyPy q) v.2) e' ei le' live fun C _ rc => by
              refine ⟨B', .inl ⟨_, rfl, q, y, [], B', fun _ => 0, rfl, rfl, r', ⟨rfl, fun _ => rfl⟩, fun b => rfl⟩, fun b => by omega⟩
            exact fin g2 ok2
          | cons p kvs =>
            obtain ⟨j, z⟩ := p
            obtain ⟨qq, v, t, _, _, e, ej, _⟩ := rt
            subst ej
            unfold allLeaf at k2
            rw [List.all_cons] at k2
            obtain ⟨w, e⟩ := leaf_key (and_t k2).1
            exact (leaf_not_tup e.symm).elim
      · obtain ⟨k1, k2⟩ := and_t hk
        obtain ⟨q, rfl⟩ := tup_key k1
        obtain ⟨b, ws, rfl, hb, fb⟩ := hj
        obtain rfl := kVs_of fb
        rcases hd with ⟨ks, C, eH, rt, len⟩ | ⟨ks, C, eH, _, len⟩
        · cases kvs with
          | nil =>
            obtain ⟨rfl, _⟩ := (show ks = [] ∧ _ from rt)
            refine .inr (.inr (.inr (.inl ⟨q, b, eH, rfl, hb, ?_⟩)))
            obtain ⟨A2, g2, ok2⟩ := ok'.dicMut (u := .dT (putK [] q y)) (kvs' := dput [] (tkeyPy q) v.2) e' ei le' live fun C _ rc => by
              refine ⟨B', .inr ⟨_, rfl, q, y, [], B', fun _ => 0, rfl, rfl, r', ⟨rfl, fun _ => rfl⟩, fun b => rfl⟩, fun b => by omega⟩
            exact fin g2 ok2
          | cons p kvs =>
            obtain ⟨j, z⟩ := p
            obtain ⟨qq, v, t, _, _, e, ej, _⟩ := rt
            subst ej
            unfold allTup at k2
            rw [List.all_cons] at k2
            obtain ⟨w, e⟩ := tup_key (and_t k2).1
            exact (leaf_not_tup e).elim
        · refine .inr (.inr (.inl ⟨ks, q, b, eH, rfl, hb, by omega, fun nd => ?_⟩))
          obtain ⟨A2, g2, ok2⟩ := ok'.dicMut (u := .dT (putK ks q y)) (kvs' := dput kvs (tkeyPy q) v.2) e' ei le' live fun C _ rc => by
            rcases rc with ⟨ks', eH', rc⟩ | ⟨ks', eH', rc⟩
            · rw [eH] at eH'; cases eH'
            · rw [eH] at eH'; cases eH'
              obtain ⟨C', c1, c2⟩ := RepsT.put r' rc nd
              exact ⟨C', .inr ⟨_, rfl, c1⟩, c2⟩
          exact fin g2 ok2
    · cases hs
  · cases hs
end
end
end PD
end
section
/-! PD12: expressions, their parts. -/
namespace PD
open PySem PySem.Spec PyProof.Rows L2
variable {α β : Type}

theorem PE_imp {X : Cx} {e : Expr} {t t' : TE} (h : PE X e t) (i : ∀ σ H Q, t' σ H Q → t σ H Q) : PE X e t' := ⟨fun pins s σ H Q I q => h.run pins s σ H Q I (i σ H Q q)⟩
theorem PT_imp {X : Cx} {e : Expr} {t t' : TT} (h : PT X e t) (i : ∀ σ H Q, t' σ H Q → t σ H Q) : PT X e t' := ⟨fun pins s σ H Q I q => h.run pins s σ H Q I (i σ H Q q)⟩
theorem PW_imp {X : Cx} {e : Expr} {t t' : TT} (h : PW X e t) (i : ∀ σ H Q, t' σ H Q → t σ H Q) : PW X e t' := ⟨fun wh pins s σ H Q I q => h.run wh pins s σ H Q I (i σ H Q q)⟩
theorem PA_imp {X : Cx} {e : List Expr} {t t' : TA} (h : PA X e t) (i : ∀ σ H Q, t' σ H Q → t σ H Q) : PA X e t' := ⟨fun pos pins s σ H Q I q => h.run pos pins s σ H Q I (i σ H Q q)⟩
theorem PE_no {X : Cx} {e : Expr} {t : TE} (h : ∀ σ H Q, ¬ t σ H Q) : PE X e t := ⟨fun pins s σ H Q I q => (h σ H Q q).elim⟩
theorem PT_no {X : Cx} {e : Expr} {t : TT} (h : ∀ σ H Q, ¬ t σ H Q) : PT X e t := ⟨fun pins s σ H Q I q => (h σ H Q q).elim⟩
theorem PW_no {X : Cx} {e : Expr} {t : TT} (h : ∀ σ H Q, ¬ t σ H Q) : PW X e t := ⟨fun wh pins s σ H Q I q => (h σ H Q q).elim⟩
section
variable {G : Glob} {W : WX} {ξ : Type} {R : Rr α ξ}
theorem tM_stuck {σ : L2.St} {H : Hp} {Q : ξ → Hp → Prop} : ¬ tM G W R (stuck : M α) σ H Q := fun ⟨_, _, _, _, h⟩ => h
theorem tM_eq {m m' : M α} (e : ∀ ρ, m ρ = m' ρ) {σ : L2.St} {H : Hp} {Q : ξ → Hp → Prop} (h : tM G W R m σ H Q) : tM G W R m' σ H Q := by
  obtain ⟨F, A, ρ, ok, q⟩ := h
  exact ⟨F, A, ρ, ok, by rw [← e ρ]; exact q⟩
end
/-! the laws of the state -/
theorem bnd_ret (a : α) (k : α → M β) (ρ : Sts) : bnd (ret a) k ρ = k a ρ := rfl
theorem bnd_bnd {γ : Type} (m : M α) (k : α → M β) (l : β → M γ) (ρ : Sts) : bnd (bnd m k) l ρ = bnd m (fun a => bnd (k a) l) ρ := by
  unfold bnd
  cases m ρ with
  | none => rfl
  | some r => cases r <;> rfl
theorem bnd_cong {m : M α} {k k' : α → M β} (h : ∀ a ρ, k a ρ = k' a ρ) (ρ : Sts) : bnd m k ρ = bnd m k' ρ := by
  unfold bnd
  cases m ρ with
  | none => rfl
  | some r => cases r with
    | ok a ρ' => exact h a ρ'
    | exc c d ρ' => rfl
theorem bnd_stuck (k : α → M β) (ρ : Sts) : bnd stuck k ρ = stuck ρ := rfl
/-! no star -/
theorem noStar_cons {X : Cx} {e : Expr} {es : List Expr} (h : noStar (e :: es) = true) : starEach (e :: es) X.env = (false, eval e X.env) :: starEach es X.env ∧ noStar es = true := by
  cases e <;> first
    | exact ⟨rfl, h⟩
    | cases h
theorem noStar_each {X : Cx} : ∀ {es : List Expr}, noStar es = true → starEach es X.env = es.map fun e => (false, eval e X.env)
  | [], _ => rfl
  | e :: es, h => by
    obtain ⟨h1, h2⟩ := noStar_cons (X := X) h
    rw [h1, noStar_each h2]
    rfl
theorem noStar_any {X : Cx} {pos : Pos} : ∀ {es : List Expr}, noStar es = true → (backTo pos (starEach es X.env)).any (·.1) = false
  | [], _ => rfl
  | e :: es, h => by
    obtain ⟨h1, h2⟩ := noStar_cons (X := X) h
    rw [h1]
    show (false || (backTo pos (starEach es X.env)).any (·.1)) = false
    rw [noStar_any h2]
    rfl
section
variable {G : Glob} {X : Cx} {W : WX} {cx : Ctx} {E : Expr → M Vl}
/-- the context's text side -/
structure Cxt (G : Glob) (X : Cx) (cx : Ctx) : Prop where
  sc : X.env.scope = cx.sc
  N : X.N = cx.N
  nd : X.N.Nodup
theorem slot_at {cx : Ctx} {x : PySem.Str} {i : Nat} (h : slotOf cx x = some i) : cx.N[i]? = some x ∧ vis cx.sc x = true ∧ okName x = true := by
  unfold slotOf at h
  split at h
  · rename_i e
    obtain ⟨h1, h2⟩ := and_t e
    refine ⟨?_, h1, h2⟩
    obtain ⟨p, e', _⟩ := List.idxOf?_eq_some_iff.mp h
    rw [List.getElem?_eq_getElem p, e']
  · cases h
theorem vis_of {sc : Scope} {x : PySem.Str} (h : vis sc x = true) : Vis sc x := by
  unfold vis at h
  split at h
  · rename_i e; exact .inl e
  · rename_i e; exact .inr (.inl e)
  · rename_i e; exact .inr (.inr e)
  · cases h
theorem glb_of {X : Cx} {cx : Ctx} {x : PySem.Str} (c : Cxt G X cx) (h : glb cx.sc x = true) : Gl X x := by
  unfold glb at h
  rw [← c.sc] at h
  split at h
  · rename_i e; exact e
  · cases h
theorem okName_of {x : PySem.Str} (h : okName x = true) : (x == ("__debug__" : PySem.Str)) = false ∧ (x == ("__classdict__" : PySem.Str)) = false ∧ x ≠ "__name__" := by
  unfold okName at h
  obtain ⟨h, h3⟩ := and_t h
  obtain ⟨h1, h2⟩ := and_t h
  refine ⟨by simpa using h1, by simpa using h2, fun e => ?_⟩
  subst e
  revert h3
  decide
theorem pe_slot (c : Cxt G X cx) {x : PySem.Str} {i : Nat} {pos : Pos} (h : slotOf cx x = some i) : PE X (.Name x pos) (tVar i) := by
  obtain ⟨h1, h2, h3⟩ := slot_at h
  obtain ⟨d1, d2, _⟩ := okName_of h3
  exact pe_var (by rw [c.N]; exact h1) (by rw [c.sc]; exact vis_of h2) d1 d2
/-- an operand -/
theorem e_opnd (c : Cxt G X cx) {e : Expr} (hE : PE X e (tM G W RV (E e))) : PE X e (tM G W RO (opnd cx E e)) := by
  have plain : PE X e (tM G W RO (tmp (E e))) := PE_imp hE fun σ H Q ⟨F, A, ρ, ok, h⟩ => ⟨F, A, ρ, ok, h.bind (fun _ z => z) fun v ρ1 _ x F1 H1 A1 B1 Z1 g ok1 r1 le1 z1 z2 z3 h1 =>
    h1 x F1 H1 A1 B1 ((Go.refl F1 H1 Z1).less fun a z => by have z' : A1 a + B1 a ≠ 0 := z; have := z1 a; have := z2 a; omega) ok1 r1 le1⟩
  unfold opnd
  split
  · rename_i x p
    split
    · rename_i i hi
      refine PE_imp (pe_slot c hi) fun σ H Q ⟨F, A, ρ, ok, h⟩ => ?_
      unfold slotO at h
      cases e : rdS ρ i with
      | none => simp only [e] at h; exact (h : False).elim
      | some d =>
        simp only [e] at h
        obtain ⟨v, ev, _⟩ := ok.at e
        exact ⟨v, ev, h v F H A (fun _ => 0) ((Go.refl F H A).less fun a z => z) ok ⟨ev, fun _ => rfl⟩ (fun a => ok.one a)⟩
    · exact plain
  · exact plain
theorem Aft.fin {R' : Rr Vl V} {F H : Hp} {A B Z : Ft} {σ : L2.St} {ρ : Sts} {v : Vl} {x : V} {Q : V → Hp → Prop} (h : Aft G W RV F H Z σ (some (.ok v ρ)) Q) (ok : Ok F H σ ρ A) (r : Rep F H v.1 v.2 x B) (le : ∀ a, A a + B a ≤ 1) (az : Le A Z) (bz : Le B Z) : Q x H :=
  h x F H A B ((Go.refl F H Z).less fun a z => by have z' : A a + B a ≠ 0 := z; have := az a; have := bz a; omega) ok r le
/-! ### names, constants -/
theorem e_const {c : Const} {k : Nat} {pos : Pos} : PE X (.Constant c k pos) (tM G W RV (lif (vl0 (constD c)))) := by
  cases c <;> first
    | exact PE_no fun σ H Q ⟨_, _, _, _, h⟩ => h
    | exact PE_imp pe_non fun σ H Q ⟨F, A, ρ, ok, h⟩ => (Aft.nw h ok fun _ z => z).imm ok.fok (x := .non) rfl rfl
    | exact PE_imp pe_bl fun σ H Q ⟨F, A, ρ, ok, h⟩ => (Aft.nw h ok fun _ z => z).bl ok.fok
    | exact PE_imp pe_int fun σ H Q ⟨F, A, ρ, ok, h⟩ => (Aft.nw h ok fun _ z => z).int ok.fok
    | exact PE_imp pe_str fun σ H Q ⟨F, A, ρ, ok, h⟩ => (Aft.nw h ok fun _ z => z).str ok.fok
theorem e_share {i : Nat} {σ : L2.St} {H : Hp} {Q : VK} (h : tM G W RV (share i) σ H Q) : tVar i σ H Q := by
  obtain ⟨F, A, ρ, ok, h⟩ := h
  unfold share at h
  cases e : ρ[i]? with
  | none => simp only [e] at h; exact (h : False).elim
  | some s =>
    simp only [e] at h
    cases s with
    | dead => exact (h : False).elim
    | ro d => exact (h : False).elim
    | val k d =>
      obtain ⟨x, F', A', B', e1, r, ex, ok', la⟩ := ok.lowS e (Nat.zero_le k)
      refine ⟨x, e1, ?_⟩
      have h' : Aft G W RV F H A σ (some (.ok (0, d) (ρ.set i (.val 0 d)))) Q := h
      refine (h'.base (ex.go.big fun _ z => z)).fin (R' := RV) (B := fun _ => 0) ok' ⟨r.1, fun _ => rfl⟩ (fun a => ok'.one a) (fun a z => by show A' a + A a ≠ 0; omega) fun a z => absurd rfl z
theorem e_move {pr : List Nat} {i : Nat} {σ : L2.St} {H : Hp} {Q : VK} (h : tM G W RV (moveS pr i) σ H Q) : tVar i σ H Q := by
  obtain ⟨F, A, ρ, ok, h⟩ := h
  unfold moveS at h
  split at h
  · exact (h : False).elim
  · cases e : ρ[i]? with
    | none => simp only [e] at h; exact (h : False).elim
    | some s =>
      simp only [e] at h
      cases s with
      | dead => exact (h : False).elim
      | ro d => exact (h : False).elim
      | val k d =>
        obtain ⟨o, B, C, e1, h1, h2, h3⟩ := RepS.focus ok.rep e
        obtain ⟨x, rfl, r⟩ := h1
        refine ⟨x, e1, ?_⟩
        have h' : Aft G W RV F H A σ (some (.ok (k, d) (ρ.set i .dead))) Q := h
        have one := ok.one
        have rep : RepS F H (ρ.set i .dead) σ C := by
          have := h3 F H .dead (some x) (fun _ => 0) C ⟨Sub.refl F, fun _ _ => rfl, fun _ _ f => f⟩ (fun _ => rfl) fun a => by show C a = 0 + C a; omega
          rw [set_self e1] at this
          exact this
        refine h'.fin (R' := RV) (B := B) (A := C) ⟨ok.fok, rep, fun a => by have := one a; rw [h2 a] at this; omega⟩ r (fun a => by have := one a; rw [h2 a] at this; omega) (fun a z => by rw [h2 a]; omega) fun a z => by rw [h2 a]; omega

/-! ### tests -/
theorem Aft.tstK {ζ : Type} {R' : Rr β ζ} {v : Vl} {x : V} {B : Ft} {F H : Hp} {Z : Ft} {σ : L2.St} {ρ : Sts} {Q : ζ → Hp → Prop} {k : Bool → M β} (r : Rep F H v.1 v.2 x B) (h : Aft G W R' F H Z σ (bnd (tstK v) k ρ) Q) : ∃ b, x = .bl b ∧ (∀ a, B a = 0) ∧ Aft G W R' F H Z σ (k b ρ) Q := by
  obtain ⟨n, d⟩ := v
  cases d with
  | bool b =>
    refine ⟨b, ?_, ?_, h⟩ <;> cases n <;> first
      | exact r.1
      | exact r.2
  | none => exact (h : False).elim
  | int _ => exact (h : False).elim
  | str _ => exact (h : False).elim
  | list _ => exact (h : False).elim
  | tuple _ => exact (h : False).elim
  | dict _ => exact (h : False).elim
theorem Aft.tst1 {v : Vl} {x : V} {B : Ft} {F H : Hp} {Z : Ft} {σ : L2.St} {ρ : Sts} {Q : Bool → Hp → Prop} (r : Rep F H v.1 v.2 x B) (h : Aft G W RB F H Z σ (PD.tstK v ρ) Q) : ∃ b, x = .bl b ∧ (∀ a, B a = 0) ∧ Aft G W RB F H Z σ (some (.ok b ρ)) Q := by
  obtain ⟨n, d⟩ := v
  cases d with
  | bool b =>
    refine ⟨b, ?_, ?_, h⟩ <;> cases n <;> first
      | exact r.1
      | exact r.2
  | none => exact (h : False).elim
  | int _ => exact (h : False).elim
  | str _ => exact (h : False).elim
  | list _ => exact (h : False).elim
  | tuple _ => exact (h : False).elim
  | dict _ => exact (h : False).elim

theorem e_tst {e : Expr} (hE : PE X e (tM G W RV (E e))) (he : ∀ whole, isTrue e X.env whole = (do let v ← whole; standAt e.pos; holding [v] (truthy v))) : PT X e (tM G W RB (tst (E e))) := by
  refine PT_imp (pt_val hE he) fun σ H Q ⟨F, A, ρ, ok, h⟩ => ⟨F, A, ρ, ok, h.bind (fun _ z => z) fun v ρ1 _ x F1 H1 A1 B1 Z1 g ok1 r1 le1 z1 z2 z3 h1 => ?_⟩
  obtain ⟨b, rfl, z0, h1⟩ := Aft.tst1 r1 h1
  exact ⟨b, rfl, h1 b F1 H1 A1 (fun _ => 0) ((Go.refl F1 H1 Z1).less fun a z => by have z' : A1 a + 0 ≠ 0 := z; exact z1 a (by omega)) ok1 ⟨rfl, fun _ => rfl⟩ fun a => ok1.one a⟩
/-- behind a test -/
theorem Aft.test {ζ : Type} {R' : Rr β ζ} {m : M Bool} {k : Bool → M β} {F H : Hp} {A Z : Ft} {σ : L2.St} {ρ : Sts} {Q : ζ → Hp → Prop} {Q1 : Bool → Hp → Prop} (h : Aft G W R' F H Z σ (bnd m k ρ) Q) (az : Le A Z)
    (step : ∀ b F1 H1 A1 ρ1 Z1, Ok F1 H1 σ ρ1 A1 → Le A1 Z1 → Le Z Z1 → Aft G W R' F1 H1 Z1 σ (k b ρ1) Q → Q1 b H1) : Aft G W RB F H A σ (m ρ) Q1 :=
  h.bind az fun b ρ1 _ c F1 H1 A1 B1 Z1 g ok1 r1 le1 z1 z2 z3 h1 => by
    obtain ⟨e, _⟩ := (show c = b ∧ _ from r1)
    subst e
    exact step c F1 H1 A1 ρ1 Z1 ok1 z1 z3 h1
theorem Ok.tM {ζ : Type} {R' : Rr β ζ} {m : M β} {F H : Hp} {A Z : Ft} {σ : L2.St} {ρ : Sts} {Q : ζ → Hp → Prop} (ok : Ok F H σ ρ A) (az : Le A Z) (h : Aft G W R' F H Z σ (m ρ) Q) : tM G W R' m σ H Q := by
  refine ⟨F, A, ρ, ok, h.base ?_⟩
  exact ⟨Sub.refl F, fun _ _ _ h => h, fun _ _ _ => rfl, fun a z => .inl (az a z), fun a z => absurd rfl z⟩
theorem Aft.retB {F H : Hp} {A Z : Ft} {σ : L2.St} {ρ : Sts} {b : Bool} {Q : Bool → Hp → Prop} (h : Aft G W RB F H Z σ (some (.ok b ρ)) Q) (ok : Ok F H σ ρ A) (az : Le A Z) : Q b H :=
  h b F H A (fun _ => 0) ((Go.refl F H Z).less fun a z => by have z' : A a + 0 ≠ 0 := z; exact az a (by omega)) ok ⟨rfl, fun _ => rfl⟩ fun a => ok.one a
theorem e_if {c a b : Expr} {pos : Pos} {ma mb : M Vl} {mc : M Bool} (hc : PT X c (tM G W RB mc)) (ha : PE X a (tM G W RV ma)) (hb : PE X b (tM G W RV mb)) : PE X (.IfExp c a b pos) (tM G W RV (cIf mc ma mb)) := by
  refine PE_imp (pe_ifExp hc ha hb) fun σ H Q ⟨F, A, ρ, ok, h⟩ => ⟨F, A, ρ, ok, Aft.test (A := A) h (fun _ z => z) fun t F1 H1 A1 ρ1 Z1 ok1 az _ h1 => ?_⟩
  cases t with
  | true => exact ok1.tM az h1
  | false => exact ok1.tM az h1
theorem e_not {a : Expr} {pos : Pos} {m : M Vl} (ha : PT X a (tM G W RB (tst m))) (hv : PE X a (tM G W RV m)) : PE X (.UnaryOp .Not a pos) (tM G W RV (cNot m)) := by
  refine PE_imp (pe_not hv) fun σ H Q ⟨F, A, ρ, ok, h⟩ => ?_
  have h : Aft G W RV F H A σ (bnd (bnd m PD.tstK) (fun b => ret (0, .bool (!b))) ρ) Q := h
  rw [bnd_bnd] at h
  refine ⟨F, A, ρ, ok, h.bind (fun _ z => z) fun v ρ1 _ x F1 H1 A1 B1 Z1 g ok1 r1 le1 z1 z2 z3 h1 => ?_⟩
  obtain ⟨b, rfl, z0, h1⟩ := Aft.tstK r1 h1
  exact ⟨b, rfl, (Aft.nw (show Aft G W RV F1 H1 Z1 σ (some (.ok (0, .bool (!b)) ρ1)) Q from h1) ok1 z1).bl ok1.fok⟩
theorem t_not {a : Expr} {pos : Pos} {m : M Vl} (ha : PT X a (tM G W RB (tst m))) : PT X (.UnaryOp .Not a pos) (tM G W RB (tst (cNot m))) := by
  refine PT_imp (pt_not ha) fun σ H Q ⟨F, A, ρ, ok, h⟩ => ⟨F, A, ρ, ok, ?_⟩
  have e : tst (cNot m) ρ = bnd (tst m) (fun b => ret (!b)) ρ := by
    show bnd (bnd (tst m) fun b => ret (0, PyData.bool (!b))) PD.tstK ρ = _
    rw [bnd_bnd]
    rfl
  rw [e] at h
  exact Aft.test (A := A) h (fun _ z => z) fun t F1 H1 A1 ρ1 Z1 ok1 az _ h1 => Aft.retB h1 ok1 az
theorem tst_cIf (c : M Bool) (a b : M Vl) (ρ : Sts) : tst (cIf c a b) ρ = bnd c (fun t => if t = true then tst a else tst b) ρ := by
  show bnd (bnd c fun t => if t = true then a else b) PD.tstK ρ = _
  rw [bnd_bnd]
  exact bnd_cong (fun t ρ' => by cases t <;> rfl) ρ
theorem t_if {c a b : Expr} {pos : Pos} {ma mb : M Vl} {mc : M Bool} (hc : PT X c (tM G W RB mc)) (ha : PT X a (tM G W RB (tst ma))) (hb : PT X b (tM G W RB (tst mb))) : PT X (.IfExp c a b pos) (tM G W RB (tst (cIf mc ma mb))) := by
  refine ⟨fun pins s σ H Q I ⟨F, A, ρ, ok, h⟩ => ?_⟩
  rw [tst_cIf] at h
  have hd : tM G W RB mc σ H fun t H1 => if t = true then tM G W RB (tst ma) σ H1 Q else tM G W RB (tst mb) σ H1 Q := ⟨F, A, ρ, ok, Aft.test (A := A) h (fun _ z => z) fun t F1 H1 A1 ρ1 Z1 ok1 az _ h1 => by
    cases t with
    | true => exact ok1.tM az h1
    | false => exact ok1.tM az h1⟩
  show wpAny _ _ (do if ← isTrue c X.env (eval c X.env) then isTrue a X.env (eval a X.env) else isTrue b X.env (eval b X.env)) _ _ s
  refine wpAny_bind (thn (hc.run pins s σ H _ I hd) fun t s1 ⟨H1, I1, q⟩ => ?_)
  cases t with
  | true => exact ha.run pins s1 σ H1 Q I1 q
  | false => exact hb.run pins s1 σ H1 Q I1 q
/-! and, or -/
theorem e_and {pos : Pos} (hE : ∀ e, PE X e (tM G W RV (E e))) : ∀ es : List Expr, PE X (.BoolOp .And es pos) (tM G W RV (evAnd E es))
  | [] => PE_no fun σ H Q h => tM_stuck h
  | [e] => pe_one (hE e)
  | e :: e2 :: r => by
    refine PE_imp (pe_and (hE e) (e_and hE (e2 :: r))) fun σ H Q ⟨F, A, ρ, ok, h⟩ => ?_
    have h : Aft G W RV F H A σ (bnd (bnd (E e) PD.tstK) (fun b => if b = true then evAnd E (e2 :: r) else ret (0, .bool false)) ρ) Q := h
    rw [bnd_bnd] at h
    refine ⟨F, A, ρ, ok, h.bind (fun _ z => z) fun v ρ1 _ x F1 H1 A1 B1 Z1 g ok1 r1 le1 z1 z2 z3 h1 => ?_⟩
    obtain ⟨b, rfl, z0, h1⟩ := Aft.tstK r1 h1
    refine ⟨b, rfl, ?_⟩
    cases b with
    | true => exact ok1.tM z1 (show Aft G W RV F1 H1 Z1 σ (evAnd E (e2 :: r) ρ1) Q from h1)
    | false => exact (Aft.nw (show Aft G W RV F1 H1 Z1 σ (some (.ok (0, .bool false) ρ1)) Q from h1) ok1 z1).bl ok1.fok
theorem e_or {pos : Pos} (hE : ∀ e, PE X e (tM G W RV (E e))) : ∀ es : List Expr, PE X (.BoolOp .Or es pos) (tM G W RV (evOr E es))
  | [] => PE_no fun σ H Q h => tM_stuck h
  | [e] => pe_one (hE e)
  | e :: e2 :: r => by
    refine PE_imp (pe_or (hE e) (e_or hE (e2 :: r))) fun σ H Q ⟨F, A, ρ, ok, h⟩ => ?_
    have h : Aft G W RV F H A σ (bnd (bnd (E e) PD.tstK) (fun b => if b = true then ret (0, .bool true) else evOr E (e2 :: r)) ρ) Q := h
    rw [bnd_bnd] at h
    refine ⟨F, A, ρ, ok, h.bind (fun _ z => z) fun v ρ1 _ x F1 H1 A1 B1 Z1 g ok1 r1 le1 z1 z2 z3 h1 => ?_⟩
    obtain ⟨b, rfl, z0, h1⟩ := Aft.tstK r1 h1
    refine ⟨b, rfl, ?_⟩
    cases b with
    | false => exact ok1.tM z1 (show Aft G W RV F1 H1 Z1 σ (evOr E (e2 :: r) ρ1) Q from h1)
    | true => exact (Aft.nw (show Aft G W RV F1 H1 Z1 σ (some (.ok (0, .bool true) ρ1)) Q from h1) ok1 z1).bl ok1.fok
theorem w_and {pos : Pos} (hT : ∀ e, PT X e (tM G W RB (tst (E e)))) : ∀ es : List Expr, PW X (.BoolOp .And es pos) (tM G W RB (tst (evAnd E es)))
  | [] => PW_no fun σ H Q h => tM_stuck (α := Bool) h
  | [e] => pw_and1 (hT e)
  | e :: e2 :: r => by
    refine PW_imp (pw_and (hT e) (w_and hT (e2 :: r))) fun σ H Q ⟨F, A, ρ, ok, h⟩ => ⟨F, A, ρ, ok, ?_⟩
    have e : tst (evAnd E (e :: e2 :: r)) ρ = bnd (tst (E e)) (fun b => if b = true then tst (evAnd E (e2 :: r)) else ret false) ρ := by
      show bnd (bnd (tst (E e)) fun b => if b = true then evAnd E (e2 :: r) else ret (0, PyData.bool false)) PD.tstK ρ = _
      rw [bnd_bnd]
      exact bnd_cong (fun b ρ' => by cases b <;> rfl) ρ
    rw [e] at h
    refine Aft.test (A := A) h (fun _ z => z) fun t F1 H1 A1 ρ1 Z1 ok1 az _ h1 => ?_
    cases t with
    | true => exact ok1.tM az h1
    | false => exact Aft.retB h1 ok1 az
theorem w_or {pos : Pos} (hT : ∀ e, PT X e (tM G W RB (tst (E e)))) : ∀ es : List Expr, PW X (.BoolOp .Or es pos) (tM G W RB (tst (evOr E es)))
  | [] => PW_no fun σ H Q h => tM_stuck (α := Bool) h
  | [e] => pw_or1 (hT e)
  | e :: e2 :: r => by
    refine PW_imp (pw_or (hT e) (w_or hT (e2 :: r))) fun σ H Q ⟨F, A, ρ, ok, h⟩ => ⟨F, A, ρ, ok, ?_⟩
    have e : tst (evOr E (e :: e2 :: r)) ρ = bnd (tst (E e)) (fun b => if b = true then ret true else tst (evOr E (e2 :: r))) ρ := by
      show bnd (bnd (tst (E e)) fun b => if b = true then ret (0, PyData.bool true) else evOr E (e2 :: r)) PD.tstK ρ = _
      rw [bnd_bnd]
      exact bnd_cong (fun b ρ' => by cases b <;> rfl) ρ
    rw [e] at h
    refine Aft.test (A := A) h (fun _ z => z) fun t F1 H1 A1 ρ1 Z1 ok1 az _ h1 => ?_
    cases t with
    | false => exact ok1.tM az h1
    | true => exact Aft.retB h1 ok1 az
end
end PD
end
section
/-! PD13: expressions, operators and displays. -/
namespace PD
open PySem PySem.Spec PyProof.Rows L2
variable {α β : Type}
def cCmpK (op : CmpOp) (a b : M Opd) (k : Bool → M β) : M β := bnd a fun x => bnd b fun y => bnd (peek x) fun dx => bnd (peek y) fun dy => bnd (lif (cmpOp op dx dy)) k
def cChainK (op op' : CmpOp) (a b c : M Opd) (k : Bool → M β) : M β := bnd a fun x => bnd b fun y => bnd (peek x) fun dx => bnd (peek y) fun dy => bnd (lif (cmpOp op dx dy)) fun t =>
  if t = true then bnd c fun z => bnd (peek y) fun dy' => bnd (peek z) fun dz => bnd (lif (cmpOp op' dy' dz)) k else k false
theorem tst_cCmp (op : CmpOp) (a b : M Opd) (ρ : Sts) : tst (cCmp op a b) ρ = cCmpK op a b ret ρ := by
  unfold tst cCmp cCmpK
  rw [bnd_bnd]
  refine bnd_cong (fun x ρ => ?_) ρ
  rw [bnd_bnd]
  refine bnd_cong (fun y ρ => ?_) ρ
  rw [bnd_bnd]
  refine bnd_cong (fun dx ρ => ?_) ρ
  rw [bnd_bnd]
  refine bnd_cong (fun dy ρ => ?_) ρ
  rw [bnd_bnd]
  rfl
theorem tst_cChain (op op' : CmpOp) (a b c : M Opd) (ρ : Sts) : tst (cChain op op' a b c) ρ = cChainK op op' a b c ret ρ := by
  unfold tst cChain cChainK
  rw [bnd_bnd]
  refine bnd_cong (fun x ρ => ?_) ρ
  rw [bnd_bnd]
  refine bnd_cong (fun y ρ => ?_) ρ
  rw [bnd_bnd]
  refine bnd_cong (fun dx ρ => ?_) ρ
  rw [bnd_bnd]
  refine bnd_cong (fun dy ρ => ?_) ρ
  rw [bnd_bnd]
  refine bnd_cong (fun t ρ => ?_) ρ
  cases t with
  | false => rfl
  | true =>
    show bnd (bnd c fun z => bnd (peek y) fun dy' => bnd (peek z) fun dz => bnd (lif (cmpOp op' dy' dz)) fun t' => ret (0, PyData.bool t')) tstK ρ = bnd c (fun z => bnd (peek y) fun dy' => bnd (peek z) fun dz => bnd (lif (cmpOp op' dy' dz)) ret) ρ
    rw [bnd_bnd]
    refine bnd_cong (fun z ρ => ?_) ρ
    rw [bnd_bnd]
    refine bnd_cong (fun dy' ρ => ?_) ρ
    rw [bnd_bnd]
    refine bnd_cong (fun dz ρ => ?_) ρ
    rw [bnd_bnd]
    rfl
theorem noSet_marks {e : Expr} (h : noSet e = true) (op : CmpOp) : behindInMarks op e = false := by
  cases e <;> first
    | rfl
    | cases h
section
variable {G : Glob} {X : Cx} {W : WX} {cx : Ctx} {E : Expr → M Vl} {ma mb mc : M Opd} {a b c : Expr} {pos : Pos}
theorem cmpK_ok {ζ : Type} {R' : Rr β ζ} {op : CmpOp} {k : Bool → M β} {σ : L2.St} {H : Hp} {Q : ζ → Hp → Prop} {Q' : VK} (h : tM G W R' (cCmpK op ma mb k) σ H Q)
    (fin : ∀ t F H A Z ρ, Ok F H σ ρ A → Le A Z → Aft G W R' F H Z σ (k t ρ) Q → Q' (.bl t) H) : tOp (rC (cmpOp op)) (tM G W RO ma) (tM G W RO mb) σ H Q' := by
  refine rd2 (r := fun vx vy H _ => rC (cmpOp op) vx vy H Q') h fun x y vx vy F H A Z ρ B C ok rx ry le az bz cz h => ?_
  obtain ⟨dx, ex, h⟩ := h.peek
  obtain ⟨dy, ey, h⟩ := h.peek
  obtain ⟨t, et, h⟩ := h.lif
  exact ⟨dx, dy, t, ok.opd rx ex, ok.opd ry ey, et, fin t F H A Z ρ ok az h⟩
theorem Aft.retBl {F H : Hp} {A Z : Ft} {σ : L2.St} {ρ : Sts} {b : Bool} {Q : VK} (h : Aft G W RV F H Z σ (ret (0, PyData.bool b) ρ) Q) (ok : Ok F H σ ρ A) (az : Le A Z) : Q (.bl b) H := (Aft.nw h ok az).bl ok.fok
theorem e_cmp (z : Cz X) (op : CmpOp) (ha : PE X a (tM G W RO ma)) (hb : PE X b (tM G W RO mb)) (hm : noSet b = true) : PE X (.Compare a [op] [b] pos) (tM G W RV (cCmp op ma mb)) :=
  PE_imp (pe_cmpR (op_cmp z op) ha hb (noSet_marks hm op)) fun σ H Q h => cmpK_ok (k := fun t => ret (0, PyData.bool t)) h fun t F H A Z ρ ok az h => h.retBl ok az
theorem t_cmp (z : Cz X) (op : CmpOp) (ha : PE X a (tM G W RO ma)) (hb : PE X b (tM G W RO mb)) (hm : noSet b = true) : PT X (.Compare a [op] [b] pos) (tM G W RB (tst (cCmp op ma mb))) :=
  PT_imp (pt_cmpR (op_cmp z op) ha hb (noSet_marks hm op)) fun σ H Q h => cmpK_ok (Q' := fun x H' => ∃ k, x = .bl k ∧ Q k H') (tM_eq (tst_cCmp op ma mb) h) fun t F H A Z ρ ok az h => ⟨t, rfl, Aft.retB h ok az⟩
theorem chainK_ok {ζ : Type} {R' : Rr β ζ} {op op' : CmpOp} {k : Bool → M β} {σ : L2.St} {H : Hp} {Q : ζ → Hp → Prop} {Q' : VK} (h : tM G W R' (cChainK op op' ma mb mc k) σ H Q)
    (fin : ∀ t F H A Z ρ, Ok F H σ ρ A → Le A Z → Aft G W R' F H Z σ (k t ρ) Q → Q' (.bl t) H) : tChain (rC (cmpOp op)) (rC (cmpOp op')) (tM G W RO ma) (tM G W RO mb) (tM G W RO mc) σ H Q' := by
  refine rd2 (r := fun vx vy H _ => rC (cmpOp op) vx vy H fun z H3 => ∃ k, z = .bl k ∧ (if k = true then tM G W RO mc σ H3 fun w H4 => rC (cmpOp op') vy w H4 Q' else Q' (.bl false) H3)) h fun x y vx vy F H A Z ρ B C ok rx ry le az bz cz h => ?_
  obtain ⟨dx, ex, h⟩ := h.peek
  obtain ⟨dy, ey, h⟩ := h.peek
  obtain ⟨t, et, h⟩ := h.lif
  refine ⟨dx, dy, t, ok.opd rx ex, ok.opd ry ey, et, t, rfl, ?_⟩
  cases t with
  | false => exact fin false F H A Z ρ ok az h
  | true =>
    have h : Aft G W R' F H Z σ (bnd mc (fun z => bnd (peek y) fun dy' => bnd (peek z) fun dz => bnd (lif (cmpOp op' dy' dz)) k) ρ) Q := h
    refine ⟨F, A, ρ, ok, h.bind az fun z ρ2 _ vz F2 H2 A2 B2 Z2 g2 ok2 r2 le2 y1 y2 y3 h2 => ?_⟩
    have ap : ∀ a, C a ≠ 0 → A a = 0 := fun a q => by have := le a; omega
    have ry' : RO F2 H2 σ ρ2 y vy C := ry.mono (g2.kp (fun a q => ry.live a q) ap)
    obtain ⟨dy', ey', h2⟩ := h2.peek
    obtain ⟨dz, ez, h2⟩ := h2.peek
    obtain ⟨t', et', h2⟩ := h2.lif
    exact ⟨dy', dz, t', ok2.opd ry' ey', ok2.opd r2 ez, et', fin t' F2 H2 A2 Z2 ρ2 ok2 y1 h2⟩
theorem e_chain (z : Cz X) (op op' : CmpOp) (ha : PE X a (tM G W RO ma)) (hb : PE X b (tM G W RO mb)) (hc : PE X c (tM G W RO mc)) (hm : noSet c = true) : PE X (.Compare a [op, op'] [b, c] pos) (tM G W RV (cChain op op' ma mb mc)) :=
  PE_imp (pe_chain (op_cmp z op) (op_cmp z op') ha hb hc (noSet_marks hm op')) fun σ H Q h => chainK_ok (k := fun t => ret (0, PyData.bool t)) h fun t F H A Z ρ ok az h => h.retBl ok az
theorem t_chain (z : Cz X) (op op' : CmpOp) (ha : PE X a (tM G W RO ma)) (hb : PE X b (tM G W RO mb)) (hc : PE X c (tM G W RO mc)) (hm : noSet c = true) : PT X (.Compare a [op, op'] [b, c] pos) (tM G W RB (tst (cChain op op' ma mb mc))) :=
  PT_imp (pt_chain (op_cmp z op) (op_cmp z op') ha hb hc (noSet_marks hm op')) fun σ H Q h => chainK_ok (Q' := fun x H' => ∃ k, x = .bl k ∧ Q k H') (tM_eq (tst_cChain op op' ma mb mc) h) fun t F H A Z ρ ok az h => ⟨t, rfl, Aft.retB h ok az⟩

/-! ### sums, products -/
theorem kp_new {F F' H : Hp} {A B C : Ft} (s : Sub F F') (nf : ∀ a, F' a ≠ F a → A a ≠ 0 ∨ B a ≠ 0) (ap : ∀ a, C a ≠ 0 → A a = 0 ∧ B a = 0) : Kp F H F' H C := ⟨s, fun _ _ => rfl, fun a z f => by
  by_cases h : F' a = F a
  · rw [h]; exact f
  · obtain ⟨h1, h2⟩ := ap a z
    rcases nf a h with q | q
    · exact absurd h1 q
    · exact absurd h2 q⟩
theorem Ok.kids2 {ζ : Type} {R' : Rr β ζ} {F H : Hp} {A B C Z : Ft} {σ : L2.St} {ρ : Sts} {x y : Opd} {vx vy : V} {Q : ζ → Hp → Prop} {k : PyData → PyData → M β} (ok : Ok F H σ ρ A) (rx : RO F H σ ρ x vx B) (ry : RO F H σ ρ y vy C) (le : ∀ a, A a + B a + C a ≤ 1) (az : Le A Z) (bz : Le B Z) (cz : Le C Z)
    (h : Aft G W R' F H Z σ (bnd (PD.kids x) (fun dx => bnd (PD.kids y) fun dy => k dx dy) ρ) Q) : ∃ dx dy F' A' ρ', Ok F' H σ ρ' A' ∧ DK F' H dx vx ∧ DK F' H dy vy ∧ Le A' Z ∧ Aft G W R' F' H Z σ (k dx dy ρ') Q := by
  obtain ⟨dx, F1, A1, ρ1, ok1, kx, l1, s1, n1, h1⟩ := ok.kids rx (fun a => by have := le a; omega) az bz h
  have ry1 : RO F1 H σ ρ1 y vy C := ry.mono (kp_new s1 n1 fun a q => by have := le a; omega)
  obtain ⟨dy, F2, A2, ρ2, ok2, ky, l2, s2, n2, h2⟩ := ok1.kids ry1 (fun a => by
    have := le a
    have := ok1.one a
    by_cases q : A1 a = 0
    · omega
    · have := l1 a q; omega) (fun a q => az a (l1 a q)) cz h1
  exact ⟨dx, dy, F2, A2, ρ2, ok2, kx.mono s2, ky, fun a q => az a (l1 a (l2 a q)), h2⟩
theorem rN_ok {f : PyData → PyData → Option Vl} {σ : L2.St} {H : Hp} {Q : VK} (h : tM G W RV (bnd ma fun x => bnd mb fun y => bnd (kids x) fun dx => bnd (kids y) fun dy => lif (f dx dy)) σ H Q) : tOp (rN f) (tM G W RO ma) (tM G W RO mb) σ H Q := by
  refine rd2 (r := rN f) h fun x y vx vy F H A Z ρ B C ok rx ry le az bz cz h => ?_
  obtain ⟨dx, dy, F', A', ρ', ok', kx, ky, l, h'⟩ := ok.kids2 rx ry le az bz cz h
  obtain ⟨w, e, h'⟩ := h'.lif1
  exact ⟨F', dx, dy, w, ok'.fok, kx, ky, e, Aft.nw h' ok' l⟩
theorem e_add (ha : PE X a (tM G W RO ma)) (hb : PE X b (tM G W RO mb)) : PE X (.BinOp a .Add b pos) (tM G W RV (cAdd ma mb)) := PE_imp (pe_op op_addP ha hb) fun σ H Q h => rN_ok h
theorem e_num (op : Operator) (ha : PE X a (tM G W RO ma)) (hb : PE X b (tM G W RO mb)) : PE X (.BinOp a op b pos) (tM G W RV (cNum op ma mb)) := PE_imp (pe_op (op_numAll op) ha hb) fun σ H Q h => rN_ok h
theorem Aft.asK {ζ : Type} {R' : Rr β ζ} {v : Vl} {x : V} {B : Ft} {F H : Hp} {Z : Ft} {σ : L2.St} {ρ : Sts} {Q : ζ → Hp → Prop} {k : Int → M β} (r : Rep F H v.1 v.2 x B) (h : Aft G W R' F H Z σ (bnd (asIntK v) k ρ) Q) : ∃ i, x = .int i ∧ (∀ a, B a = 0) ∧ Aft G W R' F H Z σ (k i ρ) Q := by
  obtain ⟨n, d⟩ := v
  cases d with
  | int i =>
    refine ⟨i, ?_, ?_, h⟩ <;> cases n <;> first
      | exact r.1
      | exact r.2
  | none => exact (h : False).elim
  | bool _ => exact (h : False).elim
  | str _ => exact (h : False).elim
  | list _ => exact (h : False).elim
  | tuple _ => exact (h : False).elim
  | dict _ => exact (h : False).elim
theorem e_neg {m : M Vl} (ha : PE X a (tM G W RV m)) : PE X (.UnaryOp .USub a pos) (tM G W RV (cNeg m)) := by
  refine PE_imp (pe_un un_neg ha) fun σ H Q ⟨F, A, ρ, ok, h⟩ => ?_
  have h : Aft G W RV F H A σ (bnd (bnd m asIntK) (fun i => ret (0, PyData.int (-i))) ρ) Q := h
  rw [bnd_bnd] at h
  refine ⟨F, A, ρ, ok, h.bind (fun _ z => z) fun v ρ1 _ x F1 H1 A1 B1 Z1 g ok1 r1 le1 z1 z2 z3 h1 => ?_⟩
  obtain ⟨i, rfl, z0, h1⟩ := Aft.asK r1 h1
  exact ⟨i, rfl, (Aft.nw (show Aft G W RV F1 H1 Z1 σ (some (.ok (0, PyData.int (-i)) ρ1)) Q from h1) ok1 z1).int ok1.fok⟩

/-! ### rows of expressions -/
theorem e_row (hE : ∀ e, PE X e (tM G W RV (E e))) : ∀ es : List Expr, noStar es = true → PA X es (tM G W RVs (evs E es))
  | [], _ => PA_imp pa_nil fun σ H Q ⟨F, A, ρ, ok, h⟩ => h [] F H A (fun _ => 0) ((Go.refl F H A).less fun a z => by have z' : A a + 0 ≠ 0 := z; omega) ok ⟨rfl, fun _ => rfl⟩ (fun a => ok.one a)
  | e :: es, hn => by
    obtain ⟨h1, h2⟩ := noStar_cons (X := X) hn
    refine PA_imp (pa_cons (hE e) (e_row hE es h2) h1) fun σ H Q ⟨F, A, ρ, ok, h⟩ => ?_
    have h : Aft G W RVs F H A σ (bnd (E e) (fun v => bnd (evs E es) fun vs => ret (v :: vs)) ρ) Q := h
    refine ⟨F, A, ρ, ok, h.bind (fun _ z => z) fun v ρ1 _ x F1 H1 A1 B1 Z1 g1 ok1 r1 le1 y1 y2 y3 h1 => ?_⟩
    refine ⟨F1, A1, ρ1, ok1, h1.bind y1 fun vs ρ2 _ xs F2 H2 A2 B2 Z2 g2 ok2 r2 le2 w1 w2 w3 h2 => ?_⟩
    have ap : ∀ a, B1 a ≠ 0 → A1 a = 0 := fun a q => by have := le1 a; omega
    have live : ∀ a, B1 a ≠ 0 → H1 a ≠ none := fun a q => Rep.live _ _ _ _ r1 a q
    have r1' := Rep.mono _ _ _ _ (g2.kp live ap) r1
    refine h2 (x :: xs) F2 H2 A2 (fun a => B1 a + B2 a) ((Go.refl F2 H2 Z2).less fun a q => ?_) ok2 ⟨x, xs, B1, B2, rfl, r1', r2, fun _ => rfl⟩ fun a => ?_
    · have q' : A2 a + (B1 a + B2 a) ≠ 0 := q
      have h1 := w1 a
      have h2 := w2 a
      have h3 := w3 a
      have h4 := y2 a
      by_cases p : B1 a = 0
      · by_cases p2 : A2 a = 0
        · exact h2 (by omega)
        · exact h1 p2
      · exact h3 (h4 p)
    · have l1 := le1 a
      have l2 := le2 a
      show A2 a + (B1 a + B2 a) ≤ 1
      by_cases p : B1 a = 0
      · omega
      · have := g2.apart live ap a p
        omega
/-- all to one level -/
def levOk (k : Nat) (v : Vl) : Prop := imm v.2 = true ∨ k ≤ v.1
theorem minLev_ok : ∀ (vs : List Vl) (v : Vl), v ∈ vs → imm v.2 = true ∨ ∃ k, minLev vs = some k ∧ k ≤ v.1
  | [], v, h => by cases h
  | w :: vs, v, h => by
    unfold minLev
    rcases List.mem_cons.mp h with e | h
    · subst e
      by_cases hi : imm v.2 = true
      · exact .inl hi
      · rw [if_neg hi]
        right
        split
        · exact ⟨_, rfl, Nat.le_refl _⟩
        · exact ⟨_, rfl, Nat.min_le_left _ _⟩
    · rcases minLev_ok vs v h with q | ⟨k, e, l⟩
      · exact .inl q
      · right
        split
        · exact ⟨k, e, l⟩
        · rw [e]
          exact ⟨_, rfl, Nat.le_trans (Nat.min_le_right _ _) l⟩
theorem lev_ok (vs : List Vl) (v : Vl) (h : v ∈ vs) : levOk (lev vs) v := by
  rcases minLev_ok vs v h with q | ⟨k, e, l⟩
  · exact .inl q
  · exact .inr (by unfold lev; rw [e]; exact l)
theorem row_level {H : Hp} (k : Nat) : ∀ {vs : List Vl} {xs : List V} {B : Ft} {F : Hp}, (∀ v, v ∈ vs → levOk k v) → FOk F H → RepVs F H vs xs B → (∀ a, B a ≤ 1) → ∃ F' B', Exr F H F' B B' ∧ Reps (Rep F' H k) (vs.map (·.2)) xs B'
  | [], xs, B, F, _, fk, h, _ => ⟨F, B, .refl fk, h⟩
  | v :: vs, _, B, F, hl, fk, ⟨x, r, C, D, rfl, h1, h2, h3⟩, le => by
    have one : ∃ F1 C1, Exr F H F1 C C1 ∧ Rep F1 H k v.2 x C1 := by
      rcases hl v (List.mem_cons_self ..) with q | q
      · obtain ⟨f1, f2⟩ := Rep.fz_imm _ _ _ _ q h1
        exact ⟨F, C, .refl fk, by
          have : C = fun _ => 0 := funext f2
          rw [this]
          exact Fz.rep_imm k _ _ q f1⟩
      · exact lower v.1 k q v.2 x C F fk h1 fun a => by have := le a; rw [h3 a] at this; omega
    obtain ⟨F1, C1, e1, r1⟩ := one
    have h2' : RepVs F1 H vs r D := RepVs.mono (e1.kp fun a z => by have := le a; rw [h3 a] at this; omega) h2
    obtain ⟨F2, D1, e2, r2⟩ := row_level k (fun v hv => hl v (List.mem_cons_of_mem _ hv)) e1.fok h2' fun a => by have := le a; rw [h3 a] at this; omega
    have r1' : Rep F2 H k v.2 x C1 := Rep.mono k _ _ _ (e2.kp fun a z => by have := le a; rw [h3 a] at this; have := e1.le a; omega) r1
    refine ⟨F2, fun a => C1 a + D1 a, ⟨e1.sub.trans e2.sub, e2.fok, fun a => by have := e1.le a; have := e2.le a; rw [h3 a]; omega, fun a z => ?_⟩, x, r, C1, D1, rfl, r1', r2, fun _ => rfl⟩
    by_cases h : F1 a = F a
    · obtain ⟨q1, q2⟩ := e2.new a (by rw [h]; exact z)
      have := le a
      have := e1.le a
      rw [h3 a] at *
      exact ⟨by omega, by show C1 a + D1 a = 0; omega⟩
    · obtain ⟨q1, q2⟩ := e1.new a h
      have := le a
      have := e2.le a
      rw [h3 a] at *
      exact ⟨by omega, by show C1 a + D1 a = 0; omega⟩
/-- a new root over kids -/
theorem Aft.root {F F' H : Hp} {A B B' Z : Ft} {σ : L2.St} {ρ : Sts} {v : Vl} {Q : VK} {p : Addr} {o : HO} (h : Aft G W RV F H Z σ (some (.ok v ρ)) Q) (ok : Ok F H σ ρ A) (ex : Exr F H F' B B') (le : ∀ a, A a + B a ≤ 1) (az : Le A Z) (bz : Le B Z) (hp : H p = none) (own : Bool) (lb : ∀ a, B' a ≠ 0 → H a ≠ none)
    (r : Rep (if own = true then F' else upd F' p o) (upd H p o) v.1 v.2 (.ref p) (fun a => (if own = true then sg p a else 0) + B' a)) : Q (.ref p) (upd H p o) := by
  have fk' := ex.fok
  have fp : F' p = none := fk'.free hp
  have rep' : RepS F' H ρ σ A := RepS.mono (ex.kp fun a z => by have := le a; omega) ok.rep
  have bp : B' p = 0 := by
    by_cases q : B' p = 0
    · exact q
    · exact absurd hp (lb p q)
  have ap : A p = 0 := by
    by_cases q : A p = 0
    · exact q
    · exact absurd hp (RepS.live ok.rep p q)
  have zA : ∀ a, A a ≠ 0 → a ≠ p := fun a z e => z (e ▸ ap)
  cases own with
  | true =>
    refine h _ F' (upd H p o) A (fun a => sg p a + B' a) ⟨ex.sub, fun a o' u h => (upd_ne fun z => by rw [z, hp] at h; cases h).trans h, fun a z n => upd_ne fun e => n (e ▸ hp), fun a z => ?_, fun a z => ?_⟩ ⟨fk'.new hp, RepS.mono ⟨Sub.refl F', fun a z => upd_ne (zA a z), fun a z f => f⟩ rep', ok.one⟩ r fun a => ?_
    · have z' : A a + (sg p a + B' a) ≠ 0 := z
      by_cases e : a = p
      · rw [e]; exact .inr hp
      · rw [sg_ne e] at z'
        have := ex.le a
        have h1 := az a
        have h2 := bz a
        left
        by_cases q : A a = 0
        · exact h2 (by omega)
        · exact h1 q
    · exact .inl (bz a (ex.new a z).1)
    · have := ex.le a
      have := le a
      show A a + (sg p a + B' a) ≤ 1
      by_cases e : a = p
      · subst e; rw [sg_same]; omega
      · rw [sg_ne e]; omega
  | false =>
    have sb : Sub F' (upd F' p o) := sub_upd fp
    refine h _ (upd F' p o) (upd H p o) A (fun a => 0 + B' a) ⟨ex.sub.trans sb, fun a o' u h => (upd_ne fun z => by rw [z, hp] at h; cases h).trans h, fun a z n => upd_ne fun e => n (e ▸ hp), fun a z => ?_, fun a z => ?_⟩ ⟨fok_upd (fk'.new hp) (rt_of upd_same), RepS.mono ⟨sb, fun a z => upd_ne (zA a z), fun a z f => by rw [upd_ne (zA a z)]; exact f⟩ rep', ok.one⟩ r fun a => ?_
    · have z' : A a + (0 + B' a) ≠ 0 := z
      have := ex.le a
      have h1 := az a
      have h2 := bz a
      left
      by_cases q : A a = 0
      · exact h2 (by omega)
      · exact h1 q
    · by_cases e : a = p
      · rw [e]; exact .inr hp
      · rw [upd_ne e] at z
        exact .inl (bz a (ex.new a z).1)
    · have := ex.le a
      have := le a
      show A a + (0 + B' a) ≤ 1
      omega
theorem Reps.up {F H : Hp} {k : Nat} {p : Addr} {o : HO} {xs : List PyData} {vs : List V} {B : Ft} (hp : H p = none) (lb : ∀ a, B a ≠ 0 → H a ≠ none) (r : Reps (Rep F H k) xs vs B) : Reps (Rep F (upd H p o) k) xs vs B :=
  Reps.imp (fun x v C _ hc => Rep.mono k x v C ⟨Sub.refl F, fun a z => upd_ne fun e => lb a (by have := hc a; omega) (e ▸ hp), fun a z f => f⟩) r
theorem Reps.liv {F H : Hp} {k : Nat} {xs : List PyData} {vs : List V} {B : Ft} (r : Reps (Rep F H k) xs vs B) : ∀ a, B a ≠ 0 → H a ≠ none := Reps.live (R := Rep F H k) (fun x v C h a z => Rep.live k x v C h a z) r
theorem e_list {es : List Expr} {m : M (List Vl)} (h : PA X es (tM G W RVs m)) : PE X (.List es pos) (tM G W RV (cList m)) := by
  refine PE_imp (pe_lst h) fun σ H Q ⟨F, A, ρ, ok, h⟩ => ⟨F, A, ρ, ok, Aft.bind (R' := RV) (Q := Q) h (fun _ z => z) fun vs ρ1 _ xs F1 H1 A1 B1 Z1 g ok1 r1 le1 z1 z2 z3 h1 => ?_⟩
  split at h1
  · rename_i hl
    refine ⟨by rw [← RepVs.len r1]; exact hl, fun p hp => ?_⟩
    obtain ⟨F', B', ex, r'⟩ := row_level (lev vs) (lev_ok vs) ok1.fok r1 fun a => by have := le1 a; omega
    have lb := Reps.liv r'
    exact Aft.root (own := true) (show Aft G W RV F1 H1 Z1 σ (some (.ok _ ρ1)) Q from h1) ok1 ex le1 z1 z2 hp lb ⟨p, xs, B', rfl, upd_same, ex.fok.free hp, Reps.up hp lb r', fun a => rfl⟩
  · exact (h1 : False).elim
theorem e_tuple {es : List Expr} {k : Nat} {m : M (List Vl)} (h : PA X es (tM G W RVs m)) : PE X (.Tuple es k pos) (tM G W RV (cTuple m)) := by
  refine PE_imp (pe_tup h) fun σ H Q ⟨F, A, ρ, ok, h⟩ => ⟨F, A, ρ, ok, Aft.bind (R' := RV) (Q := Q) h (fun _ z => z) fun vs ρ1 _ xs F1 H1 A1 B1 Z1 g ok1 r1 le1 z1 z2 z3 h1 => ?_⟩
  split at h1
  · rename_i hl
    refine ⟨by rw [← RepVs.len r1]; exact hl, fun p hp => ?_⟩
    obtain ⟨F', B', ex, r'⟩ := row_level (lev vs) (lev_ok vs) ok1.fok r1 fun a => by have := le1 a; omega
    have lb := Reps.liv r'
    have fp := ex.fok.free hp
    refine Aft.root (own := false) (o := .tup xs) (show Aft G W RV F1 H1 Z1 σ (some (.ok _ ρ1)) Q from h1) ok1 ex le1 z1 z2 hp lb ⟨p, xs, rfl, upd_same, ?_⟩
    have e : (fun a => (if (false = true) then sg p a else 0) + B' a) = B' := funext fun a => by simp
    rw [e]
    exact Reps.imp (fun x v C _ hc => Rep.mono _ x v C ⟨sub_upd fp, fun a z => rfl, fun a z f => by
      have ne : a ≠ p := fun e => by
        subst e
        exact lb a (by have := hc a; omega) hp
      show upd F' p (.tup xs) a = none
      rw [upd_ne ne]
      exact f⟩) (Reps.up (o := .tup xs) hp lb r')
  · exact (h1 : False).elim
end
end PD
end
section
/-! PD14: expressions: dict displays, items, slices, built-ins, methods. -/
namespace PD
open PySem PySem.Spec PyProof.Rows L2
variable {α β : Type}
section
variable {G : Glob} {X : Cx} {W : WX} {cx : Ctx} {E : Expr → M Vl} {ma mb mc : M Opd} {a b c : Expr} {pos : Pos}

/-! reading stays where the heap stays -/
theorem rd_stay {H H' : Hp} (k : ∀ a u, H a = some u → H' a = H a) {a : Addr} {u : HO} (h : Rd H a u) : Rd H' a u := by
  rcases h with h | ⟨o, h⟩
  · exact .inl ((k a _ h).trans h)
  · exact .inr ⟨o, (k a _ h).trans h⟩
mutual
theorem DR.keep {H H' : Hp} (k : ∀ a u, H a = some u → H' a = H a) : ∀ (d : PyData) (v : V), DR H d v → DR H' d v
  | .none, _, e => e
  | .bool _, _, e => e
  | .int _, _, e => e
  | .str _, _, e => e
  | .list xs, v, ⟨a, vs, e, f, r⟩ => ⟨a, vs, e, rd_stay k f, DRs.keep k xs vs r⟩
  | .tuple xs, v, ⟨a, vs, e, f, r⟩ => ⟨a, vs, e, (k _ _ f).trans f, DRs.keep k xs vs r⟩
  | .dict kvs, v, ⟨a, e, .inl ⟨ks, f, r⟩⟩ => ⟨a, e, .inl ⟨ks, rd_stay k f, DRK.keep k kvs ks r⟩⟩
  | .dict kvs, v, ⟨a, e, .inr ⟨ks, f, r⟩⟩ => ⟨a, e, .inr ⟨ks, rd_stay k f, DRT.keep k kvs ks r⟩⟩
theorem DRs.keep {H H' : Hp} (k : ∀ a u, H a = some u → H' a = H a) : ∀ (xs : List PyData) (vs : List V), DRs H xs vs → DRs H' xs vs
  | [], _, e => e
  | x :: xs, _, ⟨v, r, e, a, b⟩ => ⟨v, r, e, DR.keep k x v a, DRs.keep k xs r b⟩
theorem DRK.keep {H H' : Hp} (k : ∀ a u, H a = some u → H' a = H a) : ∀ (xs : List (PyData × PyData)) (vs : List (Key × V)), DRK H xs vs → DRK H' xs vs
  | [], _, e => e
  | (j, x) :: xs, _, ⟨q, v, r, e, a, b, c⟩ => ⟨q, v, r, e, a, DR.keep k x v b, DRK.keep k xs r c⟩
theorem DRT.keep {H H' : Hp} (k : ∀ a u, H a = some u → H' a = H a) : ∀ (xs : List (PyData × PyData)) (vs : List (List Key × V)), DRT H xs vs → DRT H' xs vs
  | [], _, e => e
  | (j, x) :: xs, _, ⟨q, v, r, e, a, b, c⟩ => ⟨q, v, r, e, a, DR.keep k x v b, DRT.keep k xs r c⟩
end

/-! ### items -/
theorem itemV_ok {F H : Hp} {A B C Z : Ft} {σ : L2.St} {ρ : Sts} {x y : Opd} {vx vy : V} {Q : VK} (ok : Ok F H σ ρ A) (rx : RO F H σ ρ x vx B) (ry : RO F H σ ρ y vy C) (le : ∀ a, A a + B a + C a ≤ 1) (az : Le A Z) (bz : Le B Z)
    (h : Aft G W RV F H Z σ (bnd (peek y) (fun dy => itemV x dy) ρ) Q) : rIt vx vy H Q := by
  obtain ⟨dy, ey, h⟩ := h.peek
  have hy := ok.opd ry ey
  cases x with
  | t k d =>
    have h' : Aft G W RV F H Z σ ((match itemOf d dy with
      | some v => some (.ok (k - 1, v) ρ)
      | none => none) : Option (Res Vl)) Q := h
    cases e : itemOf d dy with
    | none => rw [e] at h'; exact (h' : False).elim
    | some w =>
      rw [e] at h'
      refine ⟨d, dy, w, Rep.dr ok.fok _ _ _ _ rx, hy, e, fun v it => ?_⟩
      obtain ⟨D, r, hd⟩ := Rep.item ok.fok rx hy e it
      exact Aft.fin (R' := RV) h' ok r (fun a => by have := le a; have := hd a; omega) az fun a z => bz a (by have := hd a; omega)
  | s j =>
    unfold itemV at h
    cases q : ρ[j]? with
    | none => simp only [q] at h; exact (h : False).elim
    | some s =>
      simp only [q] at h
      cases s with
      | dead => exact (h : False).elim
      | ro d =>
        simp only at h
        cases e : itemOf d dy with
        | none => rw [e] at h; exact (h : False).elim
        | some w =>
          rw [e] at h
          obtain ⟨o, D, D', e1, h1, h2, h3⟩ := RepS.focus ok.rep q
          obtain ⟨u, rfl, ru⟩ := h1
          rw [rx.1] at e1; cases e1
          have kx := DK.of_ro ru
          refine ⟨d, dy, w, kx.dr ok.fok, hy, e, fun v it => ?_⟩
          exact Aft.fin (R' := RV) (B := fun _ => 0) h ok ⟨DK.item ok.fok kx hy e it, fun _ => rfl⟩ (fun a => ok.one a) az fun a z => absurd rfl z
      | val k d =>
        simp only at h
        cases e : itemOf d dy with
        | none => rw [e] at h; exact (h : False).elim
        | some w =>
          rw [e] at h
          simp only at h
          by_cases hk : (decide (2 ≤ k) && !imm w) = true
          · rw [if_pos hk] at h
            have h2k := of_decide_eq_true (and_t hk).1
            obtain ⟨u, F', A', B', e1, ru, ex, ok', la⟩ := ok.lowS q (show 1 ≤ k by omega)
            rw [rx.1] at e1; cases e1
            have kx := DK.of_rep1 ru
            have hdr : DR H d vx := kx.dr ex.fok
            refine ⟨d, dy, w, hdr, hy, e, fun v it => ?_⟩
            exact Aft.fin (R' := RV) (B := fun _ => 0) (h.base (ex.base az)) ok' ⟨DK.item ok'.fok kx hy e it, fun _ => rfl⟩ (fun a => ok'.one a) (fun a z => az a (la a z)) fun a z => absurd rfl z
          · rw [if_neg hk] at h
            obtain ⟨o, D, D', e1, h1, h2, h3⟩ := RepS.focus ok.rep q
            obtain ⟨u, rfl, ru⟩ := h1
            rw [rx.1] at e1; cases e1
            refine ⟨d, dy, w, Rep.dr ok.fok _ _ _ _ ru, hy, e, fun v it => ?_⟩
            have fz : Fz F w v := by
              by_cases k2 : 2 ≤ k
              · have hi : imm w = true := by
                  rw [decide_eq_true k2, Bool.true_and] at hk
                  cases z : imm w with
                  | true => rfl
                  | false => rw [z] at hk; exact absurd rfl hk
                obtain ⟨D2, r, _⟩ := Rep.item ok.fok ru hy e it
                exact (Rep.fz_imm _ _ _ _ hi r).1
              · match k, k2, ru with
                | 0, _, ru => exact DK.item ok.fok (DK.of_fz ok.fok ru.1) hy e it
                | 1, _, ru => exact DK.item ok.fok (DK.of_rep1 ru) hy e it
                | n + 2, k2, _ => omega
            exact Aft.fin (R' := RV) (B := fun _ => 0) h ok ⟨fz, fun _ => rfl⟩ (fun a => ok.one a) az fun a z => absurd rfl z
theorem e_item (z : Cz X) (ha : PE X a (tM G W RO ma)) (hb : PE X b (tM G W RO mb)) (hs : PlainIx b) : PE X (.Subscript a b pos) (tM G W RV (cItem ma mb)) :=
  PE_imp (pe_ix (ix_item z) ha hb hs) fun σ H Q h => rd2 (r := rIt) h fun x y vx vy F H A Z ρ B C ok rx ry le az bz cz h => itemV_ok ok rx ry le az bz h

/-! ### slices -/
theorem cut_eq {α : Type} (xs : List α) (lo hi : Option Int) : cutD xs lo hi = (xs.drop (HT.sIx xs.length 0 lo)).take (HT.sIx xs.length xs.length hi - HT.sIx xs.length 0 lo) := by
  have key : ∀ (n d : Nat) (o : Option Int), d ≤ n → cutIx n d o = HT.sIx n d o := fun n d o hd => by
    cases o with
    | none => rfl
    | some i =>
      show (if i < 0 then (max (i + n) 0).toNat else (min i n).toNat) = (if i < 0 then (i + (n : Int)).toNat else min i.toNat n)
      split <;> omega
  unfold cutD
  rw [key _ _ _ (Nat.zero_le _), key _ _ _ (Nat.le_refl _)]
theorem Fzs.take {F : Hp} : ∀ (n : Nat) {xs : List PyData} {vs : List V}, Fzs F xs vs → Fzs F (xs.take n) (vs.take n)
  | 0, _, _, _ => rfl
  | n + 1, [], _, h => by cases (show _ = [] from h); rfl
  | n + 1, x :: xs, _, ⟨v, r, e, a, b⟩ => by rw [e]; exact ⟨v, _, rfl, a, Fzs.take n b⟩
theorem Fzs.drop {F : Hp} : ∀ (n : Nat) {xs : List PyData} {vs : List V}, Fzs F xs vs → Fzs F (xs.drop n) (vs.drop n)
  | 0, _, _, h => h
  | n + 1, [], _, h => by cases (show _ = [] from h); rfl
  | n + 1, x :: xs, _, ⟨v, r, e, a, b⟩ => by rw [e]; exact Fzs.drop n b
def rSlP : V → Option Int → Option Int → Hp → VK → Prop := fun x lo hi H Q => ∃ F d w, FOk F H ∧ DK F H d x ∧ sliceOf d lo hi = some w ∧ Nw F H w Q
theorem sl_P : SlR X rSlP := by
  intro pins s σ H x v vl vu lo hi sl Q I rx hs pl pu ⟨F, d, w, fk, hx, e, q⟩
  unfold sliceOf at e
  split at e
  · cases e
    obtain ⟨a, vs, rfl, h1, fz⟩ := hx
    refine sl_list pins s σ H _ v vl vu lo hi sl Q I rx hs pl pu ⟨a, vs, rfl, .inl h1, ?_⟩
    refine q.list fk ?_
    rw [cut_eq]
    unfold cutV
    rw [fz.len]
    exact Fzs.take _ (Fzs.drop _ fz)
  · cases e
theorem e_opt (hE : ∀ e, PE X e (tM G W RV (E e))) (o : Option Expr) : ∃ t : TO, PO X o t ∧ ∀ {β : Type} {ζ : Type} {R' : Rr β ζ} {F H : Hp} {A Z : Ft} {σ : L2.St} {ρ : Sts} {k : Option Int → M β} {Q : ζ → Hp → Prop} {Q1 : Option Int → Hp → Prop}, Ok F H σ ρ A → Le A Z → Aft G W R' F H Z σ (bnd (optI E o) k ρ) Q →
    (∀ l F1 H1 A1 Z1 ρ1, Go F H A F1 H1 A1 → Ok F1 H1 σ ρ1 A1 → Le A1 Z1 → Le Z Z1 → Aft G W R' F1 H1 Z1 σ (k l ρ1) Q → Q1 l H1) → t σ H Q1 := by
  cases o with
  | none => exact ⟨tNoPart, po_none, fun ok az h f => f none _ _ _ _ _ (Go.refl _ _ _) ok az (fun _ z => z) h⟩
  | some e =>
    refine ⟨_, po_some (hE e), fun {β ζ R' F H A Z σ ρ k Q Q1} ok az h f => ?_⟩
    have h : Aft G W R' F H Z σ (bnd (bnd (E e) fun v => bnd (asIntK v) fun i => ret (some i)) k ρ) Q := h
    rw [bnd_bnd] at h
    refine ⟨F, A, ρ, ok, h.bind az fun v ρ1 _ x F1 H1 A1 B1 Z1 g ok1 r1 le1 z1 z2 z3 h1 => ?_⟩
    rw [bnd_bnd] at h1
    obtain ⟨i, rfl, z0, h1⟩ := Aft.asK r1 h1
    exact ⟨i, rfl, f (some i) F1 H1 A1 Z1 ρ1 (g.less fun a z => by show A1 a + B1 a ≠ 0; omega) ok1 z1 z3 h1⟩
theorem e_slice {lo hi : Option Expr} {p2 : Pos} (hE : ∀ e, PE X e (tM G W RV (E e))) (ha : PE X a (tM G W RO ma)) : PE X (.Subscript a (.Slice lo hi none p2) pos) (tM G W RV (cSlice ma (optI E lo) (optI E hi))) := by
  obtain ⟨tl, hl, fl⟩ := e_opt (X := X) hE lo
  obtain ⟨th, hh, fh⟩ := e_opt (X := X) hE hi
  refine PE_imp (pe_slice sl_P ha hl hh) fun σ H Q ⟨F, A, ρ, ok, h⟩ => ?_
  have h : Aft G W RV F H A σ (bnd ma (fun x => bnd (optI E lo) fun l => bnd (optI E hi) fun h => bnd (kids x) fun d => lif (sliceOf d l h)) ρ) Q := h
  refine ⟨F, A, ρ, ok, h.bind (fun _ z => z) fun x ρ1 _ vx F1 H1 A1 B1 Z1 g ok1 r1 le1 z1 z2 z3 h1 => ?_⟩
  refine fl ok1 z1 h1 fun l F2 H2 A2 Z2 ρ2 g2 ok2 y1 y2 h2 => ?_
  refine fh ok2 y1 h2 fun u F3 H3 A3 Z3 ρ3 g3 ok3 w1 w2 h3 => ?_
  have g23 := g2.trans g3
  have ap : ∀ a, B1 a ≠ 0 → A1 a = 0 := fun a q => by have := le1 a; omega
  have live : ∀ a, B1 a ≠ 0 → H1 a ≠ none := fun a q => r1.live a q
  have r3 : RO F3 H3 σ ρ3 x vx B1 := r1.mono (g23.kp live ap)
  obtain ⟨d, F4, A4, ρ4, ok4, k4, l4, s4, n4, h4⟩ := ok3.kids r3 (fun a => by
    have := le1 a
    have := ok3.one a
    by_cases q : B1 a = 0
    · omega
    · have := g23.apart live ap a q; omega) w1 (fun a q => w2 a (y2 a (z2 a q))) h3
  obtain ⟨w, e, h4⟩ := h4.lif1
  exact ⟨F4, d, w, ok4.fok, k4, e, Aft.nw h4 ok4 fun a q => w1 a (l4 a q)⟩

/-! ### built-ins -/
theorem e_blt1 {x : PySem.Str} {p : Pos} {r : List V → Hp → VK → Prop} {t : TE} (hb : Blt X x r) (hg : Gl X x) (hm : X.mg x = none) (hn : noStar [a] = true) (ha : PE X a t) : PE X (.Call (.Name x p) [a] [] pos) (fun σ H Q => t σ H fun v H1 => r [v] H1 Q) := by
  obtain ⟨v, hv, n1, n2, hk, hc⟩ := hb
  obtain ⟨h1, h2⟩ := noStar_cons (X := X) hn
  have hpl := noStar_any (X := X) (pos := pos) h2
  have hA : PA X [a] (tCons t tNil) := pa_cons ha pa_nil h1
  rcases hk with ⟨id, rfl⟩ | ⟨T, rfl⟩
  · exact pe_callB hc hg hm hv hA n1 n2 h1 hpl
  · exact pe_callTy hc hg hm hv hA n1 n2 h1 hpl
theorem e_blt2 {x : PySem.Str} {p : Pos} {r : List V → Hp → VK → Prop} {t u : TE} (hbl : Blt X x r) (hg : Gl X x) (hm : X.mg x = none) (hn : noStar [a, b] = true) (ha : PE X a t) (hb : PE X b u) : PE X (.Call (.Name x p) [a, b] [] pos) (fun σ H Q => t σ H fun v H1 => u σ H1 fun w H2 => r [v, w] H2 Q) := by
  obtain ⟨v, hv, n1, n2, hk, hc⟩ := hbl
  obtain ⟨h1, h2⟩ := noStar_cons (X := X) hn
  obtain ⟨h3, h4⟩ := noStar_cons (X := X) h2
  have hpl := noStar_any (X := X) (pos := pos) h2
  have hA : PA X [a, b] (tCons t (tCons u tNil)) := pa_cons ha (pa_cons hb pa_nil h3) h1
  rcases hk with ⟨id, rfl⟩ | ⟨T, rfl⟩
  · exact pe_callB hc hg hm hv hA n1 n2 h1 hpl
  · exact pe_callTy hc hg hm hv hA n1 n2 h1 hpl
theorem e_look (z : Cz X) {x : PySem.Str} {p : Pos} (hl : isLook x = true) (hg : Gl X x) (hm : X.mg x = none) (hn : noStar [a] = true) (ha : PE X a (tM G W RO ma)) : PE X (.Call (.Name x p) [a] [] pos) (tM G W RV (cLook x ma)) :=
  PE_imp (e_blt1 (look_blt z hl) hg hm hn ha) fun σ H Q h => rd1 (r := fun v H1 Q => rL (bi1 x) [v] H1 Q) h fun o vx F H A Z ρ B ok r le az bz h => by
    obtain ⟨d, e, h⟩ := h.peek
    obtain ⟨w, e2, h⟩ := h.lif1
    exact ⟨F, vx, d, w, rfl, ok.fok, ok.opd r e, e2, Aft.nw h ok az⟩
theorem e_make (z : Cz X) {x : PySem.Str} {p : Pos} (hl : isMake x = true) (hg : Gl X x) (hm : X.mg x = none) (hn : noStar [a] = true) (ha : PE X a (tM G W RO ma)) : PE X (.Call (.Name x p) [a] [] pos) (tM G W RV (cMake x ma)) :=
  PE_imp (e_blt1 (make_blt z hl) hg hm hn ha) fun σ H Q h => rd1 (r := fun v H1 Q => rK (bk1 x) [v] H1 Q) h fun o vx F H A Z ρ B ok r le az bz h => by
    obtain ⟨d, F', A', ρ', ok', k, l, s, n, h⟩ := ok.kids r le az bz h
    obtain ⟨w, e2, h⟩ := h.lif1
    exact ⟨F', vx, d, w, rfl, ok'.fok, k, e2, Aft.nw h ok' fun a q => az a (l a q)⟩
theorem e_look2 (z : Cz X) {x : PySem.Str} {p : Pos} (hx : x = "max" ∨ x = "min") (hg : Gl X x) (hm : X.mg x = none) (hn : noStar [a, b] = true) (ha : PE X a (tM G W RO ma)) (hb : PE X b (tM G W RO mb)) : PE X (.Call (.Name x p) [a, b] [] pos) (tM G W RV (cLook2 x ma mb)) :=
  PE_imp (e_blt2 (look2_blt z.calm hx) hg hm hn ha hb) fun σ H Q h => rd2 (r := fun v w H1 Q => rL2 (bi2 x) [v, w] H1 Q) h fun o o' vx vy F H A Z ρ B C ok rx ry le az bz cz h => by
    obtain ⟨d, e, h⟩ := h.peek
    obtain ⟨d', e', h⟩ := h.peek
    obtain ⟨w, e2, h⟩ := h.lif1
    exact ⟨F, vx, vy, d, d', w, rfl, ok.fok, ok.opd rx e, ok.opd ry e', e2, Aft.nw h ok az⟩
/-! isinstance -/
theorem isi_blt1 (T : PySem.Str) : Blt X "isinstance" (rIs1 T) := blt_of (call_is1 T) (by decide +kernel)
theorem isi_bltM (Ts : List PySem.Str) : Blt X "isinstance" (rIsM Ts) := blt_of (call_isM Ts) (by decide +kernel)
/-- the types' names as the text has them -/
structure TyN (X : Cx) (T : PySem.Str) : Prop where
  gl : Gl X T
  mg : X.mg T = none
theorem e_ty {T : PySem.Str} {p : Pos} (hT : TyN X T) {n : String} (hn : bootBuiltins T = some (.type n)) (h1 : T ≠ "__name__") (h2 : (T == ("__debug__" : PySem.Str)) = false) : PE X (.Name T p) (tC (.ty n)) :=
  ⟨fun pins s σ H Q I q => ld_blt I hT.gl hT.mg hn ⟨.ty n, H, I, rfl, q⟩ h1 h2⟩
theorem isTys_boot {d : PyData} {b : Bool} : ∀ {Ts : List PySem.Str}, (isTys Ts d = some b → ∀ T, Ts = [T] → ∃ n, bootBuiltins T = some (.type n)) := by
  intro Ts h T e
  subst e
  obtain ⟨n, h, _⟩ := isTy_kit (isTys_one h)
  exact ⟨n, h⟩
theorem tyKnown_boot {T : PySem.Str} (h : tyKnown T = true) : ∃ n : String, bootBuiltins T = some (.type n) ∧ T ≠ "__name__" ∧ (T == ("__debug__" : PySem.Str)) = false := by
  unfold tyKnown at h
  simp only [Bool.or_eq_true, decide_eq_true_eq] at h
  rcases h with ((((h | h) | h) | h) | h) | h <;> subst h
  · exact ⟨"int", by decide +kernel, by decide +kernel, by decide +kernel⟩
  · exact ⟨"bool", by decide +kernel, by decide +kernel, by decide +kernel⟩
  · exact ⟨"str", by decide +kernel, by decide +kernel, by decide +kernel⟩
  · exact ⟨"list", by decide +kernel, by decide +kernel, by decide +kernel⟩
  · exact ⟨"tuple", by decide +kernel, by decide +kernel, by decide +kernel⟩
  · exact ⟨"dict", by decide +kernel, by decide +kernel, by decide +kernel⟩
theorem e_is1 {T : PySem.Str} {p q : Pos} (hk : tyKnown T = true) (hT : TyN X T) (hg : Gl X "isinstance") (hm : X.mg "isinstance" = none) (hn : noStar [a] = true) (ha : PE X a (tM G W RO ma)) :
    PE X (.Call (.Name "isinstance" p) [a, .Name T q] [] pos) (tM G W RV (cIsi ma [T])) := by
  obtain ⟨n, hb, h1, h2⟩ := tyKnown_boot hk
  have hn2 : noStar [a, .Name T q] = true := by cases a <;> first | rfl | cases hn
  refine PE_imp (e_blt2 (isi_blt1 T) hg hm hn2 ha (e_ty (p := q) hT hb h1 h2)) fun σ H Q h => rd1 (r := fun v H1 Q => tC (.ty n) σ H1 fun w H2 => rIs1 T [v, w] H2 Q) h fun o vx F H A Z ρ B ok r le az bz h => ?_
  obtain ⟨d, e, h⟩ := h.peek
  obtain ⟨w, e2, h⟩ := h.lif
  exact ⟨vx, d, n, w, rfl, hb, ok.opd r e, e2, Aft.retBl h ok az⟩
/-- a row of types -/
theorem e_tys {cx : Ctx} {P : Prog} (c : Cxt G X cx) (free : ∀ x, P.free x = true → X.mg x = none) : ∀ {es : List Expr} {Ts : List PySem.Str}, tyNames P cx es = some Ts → Ts.all tyKnown = true → ∃ cs us, tyVals Ts cs us ∧ PA X es (fun σ H Q => Q cs H) ∧ cs.length = es.length
  | [], _, h, _ => by cases h; exact ⟨[], [], ⟨rfl, rfl⟩, pa_nil, rfl⟩
  | e :: es, Ts, h, hk => by
    cases e with
    | Name T p =>
      unfold tyNames at h
      split at h
      · rename_i hc
        obtain ⟨c1, c2⟩ := and_t hc
        cases e : tyNames P cx es with
        | none => rw [e] at h; cases h
        | some l =>
          rw [e] at h
          cases h
          rw [List.all_cons] at hk
          obtain ⟨k1, k2⟩ := and_t hk
          obtain ⟨n, hb, h1, h2⟩ := tyKnown_boot k1
          obtain ⟨cs, us, tv, pa, len⟩ := e_tys c free e k2
          refine ⟨.ty n :: cs, .type n :: us, ⟨n, cs, us, hb, rfl, rfl, tv⟩, ?_, by rw [List.length_cons, List.length_cons, len]⟩
          exact pa_cons (te := tC (.ty n)) (t := fun σ H Q => Q cs H) (e_ty (p := p) ⟨glb_of c c1, free T c2⟩ hb h1 h2) pa
      · cases h
    | _ => cases h
theorem e_isM {cx : Ctx} {P : Prog} (c : Cxt G X cx) (free : ∀ x, P.free x = true → X.mg x = none) {es : List Expr} {Ts : List PySem.Str} {kk : Nat} {p q : Pos} (hT : tyNames P cx es = some Ts) (hk : Ts.all tyKnown = true) (hlen : es.length ≤ sizeLine) (hg : Gl X "isinstance") (hm : X.mg "isinstance" = none) (hn : noStar [a] = true)
    (ha : PE X a (tM G W RO ma)) : PE X (.Call (.Name "isinstance" p) [a, .Tuple es kk q] [] pos) (tM G W RV (cIsi ma Ts)) := by
  obtain ⟨cs, us, tv, pa, len⟩ := e_tys c free hT hk
  have hn2 : noStar [a, .Tuple es kk q] = true := by cases a <;> first | rfl | cases hn
  refine PE_imp (e_blt2 (isi_bltM Ts) hg hm hn2 ha (pe_tup pa)) fun σ H Q h => rd1 (r := fun v H1 Q => tTup (fun _ H Q => Q cs H) σ H1 fun w H2 => rIsM Ts [v, w] H2 Q) h fun o vx F H A Z ρ B ok r le az bz h => ?_
  obtain ⟨d, e, h⟩ := h.peek
  obtain ⟨w, e2, h⟩ := h.lif
  refine ⟨by omega, fun tp hp => ?_⟩
  have g : Go F H (fun _ => 0) F (upd H tp (.tup cs)) (fun _ => 0) := (Go.new hp).less fun a z => absurd rfl z
  have fk : FOk F (upd H tp (.tup cs)) := ok.fok.new hp
  have dr : DR H d vx := ok.opd r e
  have dr' : DR (upd H tp (.tup cs)) d vx := DR.keep (fun a u hu => upd_ne fun z => by rw [z, hp] at hu; cases hu) d vx dr
  obtain ⟨ok', _⟩ := ok.beside (B := fun _ => 0) g fk fun _ => Nat.zero_le _
  have h' : Aft G W RV F (upd H tp (.tup cs)) Z σ (ret (0, PyData.bool w) ρ) Q := h.base ⟨Sub.refl F, fun a o' u h => (upd_ne fun z => by rw [z, hp] at h; cases h).trans h, fun a _ n => upd_ne fun z => n (z ▸ hp), fun a z => .inl z, fun a z => absurd rfl z⟩
  exact ⟨vx, d, tp, cs, us, w, rfl, upd_same, tv, dr', e2, Aft.retBl h' ok' az⟩
end
end PD
end
section
/-! PD15: methods. -/
namespace PD
open PySem PySem.Spec PyProof.Rows L2
variable {α β : Type}
theorem recv_ok {o : Expr} {p q : Pos} (h : recvOk o p q = true) {name : PySem.Str} {env : Env} : attributeBase o name env (eval o env) = eval o env ∧ (p.endLine == q.line) = true := by
  cases o with
  | Call f args kws pos =>
    cases f with
    | Name id np =>
      cases args with
      | nil =>
        cases kws with
        | nil => cases h
        | cons _ _ => exact ⟨rfl, h⟩
      | cons _ _ => exact ⟨rfl, h⟩
    | _ => exact ⟨rfl, h⟩
  | _ => exact ⟨rfl, h⟩
section
variable {G : Glob} {X : Cx} {W : WX} {cx : Ctx} {E : Expr → M Vl} {ma mb mc : M Opd} {a b o : Expr} {ap cp : Pos}
theorem Aft.isKind {ζ : Type} {R' : Rr β ζ} {F H : Hp} {Z : Ft} {σ : L2.St} {ρ : Sts} {Q : ζ → Hp → Prop} {p : PyData → Bool} {x : Opd} {k : Unit → M β} (h : Aft G W R' F H Z σ (bnd (isKind p x) k ρ) Q) : ∃ d, rsv x ρ = some d ∧ p d = true ∧ Aft G W R' F H Z σ (k () ρ) Q := by
  unfold bnd PD.isKind at h
  cases e : rsv x ρ with
  | none => simp only [e] at h; exact (h : False).elim
  | some d =>
    simp only [e] at h
    by_cases hp : p d = true
    · rw [if_pos hp] at h
      exact ⟨d, rfl, hp, h⟩
    · rw [if_neg hp] at h
      exact (h : False).elim
theorem list_ty {K : PySem.W.Frag} {H : Hp} {d : PyData} {x : V} (h : DR H d x) (k : PyData.isList d = true) : tyV K "list" x H := by
  cases d with
  | list xs =>
    obtain ⟨a, vs, rfl, r, _⟩ := h
    exact .inl ⟨rfl, vs, .inl r⟩
  | _ => cases k
theorem dict_is {H : Hp} {d : PyData} {x : V} (h : DR H d x) (k : PyData.isDict d = true) : ∃ a, x = .ref a ∧ IsD H a := by
  cases d with
  | dict kvs =>
    obtain ⟨a, rfl, ⟨ks, r, _⟩ | ⟨ks, r, _⟩⟩ := h
    · exact ⟨a, rfl, .inl ⟨ks, r⟩⟩
    · exact ⟨a, rfl, .inr ⟨ks, r⟩⟩
  | _ => cases k
/-! x.bit_length() -/
theorem e_bits (hr : recvOk o ap cp = true) (ho : PE X o (tM G W RO ma)) : PE X (.Call (.Attribute o "bit_length" ap) [] [] cp) (tM G W RV (cMeth1 bitLen ma)) := by
  obtain ⟨h1, h2⟩ := recv_ok hr (name := "bit_length") (env := X.env)
  refine PE_imp (pe_bits ho h1 h2) fun σ H Q h => rd1 (r := fun x H1 Q' => ∃ i, x = V.int i ∧ Q' (V.int ((Builtin.Int.intBits i : Nat) : Int)) H1) h fun x vx F H A Z ρ B ok r le az bz h => ?_
  obtain ⟨d, e, h⟩ := h.peek
  have dr := ok.opd r e
  cases d with
  | int i => exact ⟨i, dr, (Aft.nw (show Aft G W RV F H Z σ (some (.ok (0, PyData.int (bitsOf i)) ρ)) Q from h) ok az).int ok.fok⟩
  | _ => exact (h : False).elim
/-! xs.count(y) -/
def rCount : V → List V → Hp → VK → Prop := fun x xs H Q => ∃ F d e y w, xs = [y] ∧ FOk F H ∧ DR H d x ∧ DR H e y ∧ countD d e = some w ∧ Nw F H w Q
theorem mt_count (z : Cz X) : MtR X "list.count" rCount := by
  intro pins s σ H x xs v us Q I rx rxs ⟨F, d, e, y, w, ex, fk, hd, he, hc, q⟩
  subst ex
  obtain ⟨u, rfl, ru⟩ := vals1 rxs
  unfold countD at hc
  split at hc
  · rename_i ys
    split at hc
    · rename_i h
      cases hc
      obtain ⟨h, h3⟩ := and_t h
      obtain ⟨h1, h2⟩ := and_t h
      obtain ⟨as, r1, _⟩ := DR.reads z I _ _ _ hd rx
      obtain ⟨bs, r2, _⟩ := DR.reads z I _ _ _ he ru
      cases r1 with
      | list g1 g2 g3 g4 => exact PySem.SeqAt.count_list_data ⟨_, g1, g2, _, g3⟩ g4 r2 h2 h1 (room50 z h3) ⟨.int _, H, I.tok _, ⟨_, rfl⟩, q.int fk⟩
    · cases hc
  · cases hc
theorem few1 {e : Expr} {es : List Expr} (hn : noStar (e :: es) = true) (hl : (e :: es).length < 30) : ((backTo cp (starEach (e :: es) X.env)).all (fun x => !x.1) && (backToKw cp (keywordEach [] X.env)).all (fun x => x.1.isSome)
      && decide ((e :: es).length + ([] : List Keyword).length + (if ([] : List Keyword).isEmpty then 0 else 1) < 30)) = true := by
  have h0 := noStar_any (X := X) (pos := cp) hn
  have h1 : (backTo cp (starEach (e :: es) X.env)).all (fun x => !x.1) = true := by
    rw [List.all_eq_true]
    intro x hx
    cases hb : x.1 with
    | false => rfl
    | true => rw [List.any_eq_false] at h0; exact absurd hb (h0 x hx)
  rw [h1]
  show (true && true && decide ((e :: es).length + 0 + 0 < 30)) = true
  rw [decide_eq_true (by omega)]
  rfl
theorem e_count (z : Cz X) (hr : recvOk o ap cp = true) (hn : noStar [a] = true) (ho : PE X o (tM G W RO ma)) (ha : PE X a (tM G W RO mb)) : PE X (.Call (.Attribute o "count" ap) [a] [] cp) (tM G W RV (cMeth2 countD ma mb)) := by
  obtain ⟨h1, h2⟩ := recv_ok hr (name := "count") (env := X.env)
  obtain ⟨n1, n2⟩ := noStar_cons (X := X) hn
  refine PE_imp (pe_bm PySem.F.plainAttrs_list PySem.F.slot_list_count PySem.F.type_list_count (mt_count z) ho (pa_cons ha pa_nil n1) h1 (few1 hn (by simp)) h2 n1 (noStar_any n2)) fun σ H Q ⟨F, A, ρ, ok, h⟩ => ?_
  have h : Aft G W RV F H A σ (bnd ma (fun x => bnd (isKind PyData.isList x) fun _ => bnd mb fun y => bnd (peek x) fun d => bnd (peek y) fun e => lif (countD d e)) ρ) Q := h
  refine ⟨F, A, ρ, ok, h.bind (fun _ z => z) fun x ρ1 _ vx F1 H1 A1 B1 Z1 g1 ok1 r1 le1 y1 y2 y3 h1 => ?_⟩
  obtain ⟨d0, e0, k0, h1⟩ := h1.isKind
  refine ⟨list_ty (ok1.opd r1 e0) k0, F1, A1, ρ1, ok1, h1.bind y1 fun y ρ2 _ vy F2 H2 A2 B2 Z2 g2 ok2 r2 le2 w1 w2 w3 h2 => ?_⟩
  have ap' : ∀ a, B1 a ≠ 0 → A1 a = 0 := fun a q => by have := le1 a; omega
  have r1' : RO F2 H2 σ ρ2 x vx B1 := r1.mono (g2.kp (fun a q => r1.live a q) ap')
  obtain ⟨d, e, h2⟩ := h2.peek
  obtain ⟨d', e', h2⟩ := h2.peek
  obtain ⟨w, ew, h2⟩ := h2.lif1
  exact ⟨F2, d, d', vy, w, rfl, ok2.fok, ok2.opd r1' e, ok2.opd r2 e', ew, Aft.nw h2 ok2 w1⟩
/-! d.get(k), d.get(k, x) -/
theorem get_val {F H : Hp} {kvs : List (PyData × PyData)} {k : PyData} {x y : V} {s : Shared} {pins : List (Addr × Obj)} {σ : L2.St} (fk : FOk F H) (hx : DK F H (.dict kvs) x) (I : Inv X pins σ H s) (hy : DR H k y) (hk : keyOk kvs k = true) :
    ∃ a ov, x = .ref a ∧ IsD H a ∧ DGot X H s a y ov ∧ ((dget kvs k = none ∧ ov = none) ∨ ∃ d w, dget kvs k = some d ∧ ov = some w ∧ Fz F d w) := by
  obtain ⟨a, ov, e, hd, g, hr⟩ := dgot I (hx.dr fk) hy hk
  refine ⟨a, ov, e, hd, g, ?_⟩
  rcases hr with hr | ⟨d, w, e1, e2, dr⟩
  · exact .inl hr
  · refine .inr ⟨d, w, e1, e2, ?_⟩
    have g' : DGet H a y (some w) := by
      rcases g with g | ⟨g, _⟩
      · rw [← e2]; exact g
      · rw [e2] at g; cases g
    have it : It H x y w := .inr (.inr ⟨a, e, g'⟩)
    exact DK.item fk hx hy (show itemOf (.dict kvs) k = some d by
      show (if keyOk kvs k then dget kvs k else none) = some d
      rw [if_pos hk]; exact e1) it
def rGet1 : V → V → Hp → VK → Prop := fun x y H Q => ∃ F d k w, FOk F H ∧ DK F H d x ∧ DR H k y ∧ getD1 d k = some w ∧ Nw F H (0, w) Q
def rGet2 : V → V → V → Hp → VK → Prop := fun x y u H Q => ∃ F d k e w, FOk F H ∧ DK F H d x ∧ DR H k y ∧ Fz F e u ∧ getD2 d k e = some w ∧ Nw F H (0, w) Q
theorem e_get1 (z : Cz X) (hr : recvOk o ap cp = true) (hn : noStar [a] = true) (ho : PE X o (tM G W RO ma)) (ha : PE X a (tM G W RO mb)) : PE X (.Call (.Attribute o "get" ap) [a] [] cp) (tM G W RV (cGet1 ma mb)) := by
  obtain ⟨b1, b2⟩ := recv_ok hr (name := "get") (env := X.env)
  obtain ⟨n1, n2⟩ := noStar_cons (X := X) hn
  have hu : X.A.units + 1 < cLine := by have := z.un; omega
  have core : PE X (.Call (.Attribute o "get" ap) [a] [] cp) (fun σ H Q => tM G W RO ma σ H fun x H1 => (∃ d, x = .ref d ∧ IsD H1 d) ∧ tM G W RO mb σ H1 fun y H2 => rGet1 x y H2 Q) := by
    refine ⟨fun pins s σ H Q I h => ?_⟩
    refine wpAny_Call_method b1 (few1 hn (by simp)) b2 PySem.F.plainAttrs_dict PySem.F.slot_dict_get PySem.F.type_dict_get (thn (ho.run pins s σ H _ I h) fun u s1 ⟨x, H1, I1, rx, ⟨d, ex, hd⟩, q1⟩ => ?_)
    subst ex
    obtain rfl : u = Value.ref d := rx
    obtain ⟨t1, t2, _⟩ := isD_at I1 hd
    refine ⟨t1, t2, ?_⟩
    have tr : backTo cp (starEach [a] X.env) = [(false, eval a X.env)] := by rw [n1]; rfl
    rw [tr]
    refine Calls.callWith_builtin rfl (Calls.evalArgs_plain (Calls.spliced_cons (thn (ha.run pins s1 σ H1 _ I1 q1) fun iv s2 ⟨y, H2, I2, ry, F, dd, k, w, fk, hx, hy, hg, q2⟩ => Calls.spliced_nil ?_)))
    cases dd with
    | dict kvs =>
      unfold getD1 at hg
      by_cases hk : keyOk kvs k = true
      · simp only [hk, if_true] at hg
        cases hg
        obtain ⟨a', ov, ea, _, g, hr⟩ := get_val fk hx I2 hy hk
        cases ea
        refine g_get1 hu I2 g ry fun w' s3 I3 rw' => ?_
        rcases hr with ⟨e1, rfl⟩ | ⟨d2, w2, e1, rfl, fz⟩
        · rw [e1] at q2
          exact ⟨.non, H2, I3, rw', q2.fz fk (x := .non) rfl⟩
        · rw [e1] at q2
          exact ⟨w2, H2, I3, rw', q2.fz fk fz⟩
      · simp only [hk] at hg
        cases hg
    | _ => cases hg
  refine PE_imp core fun σ H Q ⟨F, A, ρ, ok, h⟩ => ?_
  have h : Aft G W RV F H A σ (bnd ma (fun x => bnd (isKind PyData.isDict x) fun _ => bnd mb fun y => bnd (kids x) fun d => bnd (peek y) fun k => lif (vl0 (getD1 d k))) ρ) Q := h
  refine ⟨F, A, ρ, ok, h.bind (fun _ z => z) fun x ρ1 _ vx F1 H1 A1 B1 Z1 g1 ok1 r1 le1 y1 y2 y3 h1 => ?_⟩
  obtain ⟨d0, e0, k0, h1⟩ := h1.isKind
  refine ⟨dict_is (ok1.opd r1 e0) k0, F1, A1, ρ1, ok1, h1.bind y1 fun y ρ2 _ vy F2 H2 A2 B2 Z2 g2 ok2 r2 le2 w1 w2 w3 h2 => ?_⟩
  have apt : ∀ a, B1 a ≠ 0 → A1 a = 0 := fun a q => by have := le1 a; omega
  have live : ∀ a, B1 a ≠ 0 → H1 a ≠ none := fun a q => r1.live a q
  have r1' : RO F2 H2 σ ρ2 x vx B1 := r1.mono (g2.kp live apt)
  have sum : ∀ a, A2 a + B1 a + B2 a ≤ 1 := fun a => by
    have l1 := le1 a
    have l2 := le2 a
    by_cases q : B1 a = 0
    · omega
    · have := g2.apart live apt a q; omega
  obtain ⟨d, F3, A3, ρ3, ok3, k3, l3, s3, n3, h3⟩ := ok2.kids r1' (fun a => by have := sum a; omega) w1 (fun a q => w3 a (y2 a q)) h2
  have r2' : RO F3 H2 σ ρ3 y vy B2 := r2.mono (kp_new s3 n3 fun a q => by have := sum a; omega)
  obtain ⟨k, ek, h3⟩ := h3.peek
  obtain ⟨w, ew, h3⟩ := h3.lif1
  cases eg : getD1 d k with
  | none => rw [eg] at ew; cases ew
  | some wd =>
    rw [eg] at ew
    cases ew
    exact ⟨F3, d, k, wd, ok3.fok, k3, ok3.opd r2' ek, eg, Aft.nw h3 ok3 fun a q => w1 a (l3 a q)⟩
theorem e_get2 (z : Cz X) {m : M Vl} (hr : recvOk o ap cp = true) (hn : noStar [a, b] = true) (ho : PE X o (tM G W RO ma)) (ha : PE X a (tM G W RO mb)) (hb : PE X b (tM G W RV m)) : PE X (.Call (.Attribute o "get" ap) [a, b] [] cp) (tM G W RV (cGet2 ma mb m)) := by
  obtain ⟨b1, b2⟩ := recv_ok hr (name := "get") (env := X.env)
  obtain ⟨n1, n2⟩ := noStar_cons (X := X) hn
  obtain ⟨n3, n4⟩ := noStar_cons (X := X) n2
  have hu : X.A.units + 1 < cLine := by have := z.un; omega
  have core : PE X (.Call (.Attribute o "get" ap) [a, b] [] cp) (fun σ H Q => tM G W RO ma σ H fun x H1 => (∃ d, x = .ref d ∧ IsD H1 d) ∧ tM G W RO mb σ H1 fun y H2 => tM G W RV m σ H2 fun u H3 => rGet2 x y u H3 Q) := by
    refine ⟨fun pins s σ H Q I h => ?_⟩
    refine wpAny_Call_method b1 (few1 hn (by simp)) b2 PySem.F.plainAttrs_dict PySem.F.slot_dict_get PySem.F.type_dict_get (thn (ho.run pins s σ H _ I h) fun u s1 ⟨x, H1, I1, rx, ⟨d, ex, hd⟩, q1⟩ => ?_)
    subst ex
    obtain rfl : u = Value.ref d := rx
    obtain ⟨t1, t2, _⟩ := isD_at I1 hd
    refine ⟨t1, t2, ?_⟩
    have tr : backTo cp (starEach [a, b] X.env) = [(false, eval a X.env), (false, eval b X.env)] := by rw [n1, n3]; rfl
    rw [tr]
    refine Calls.callWith_builtin rfl (Calls.evalArgs_plain (Calls.spliced_cons (thn (ha.run pins s1 σ H1 _ I1 q1) fun iv s2 ⟨y, H2, I2, ry, q2⟩ =>
      Calls.spliced_cons (thn (hb.run pins s2 σ H2 _ I2 q2) fun fv s3 ⟨u, H3, I3, ru, F, dd, k, e, w, fk, hx, hy, he, hg, q3⟩ => Calls.spliced_nil ?_))))
    cases dd with
    | dict kvs =>
      unfold getD2 at hg
      by_cases hk : keyOk kvs k = true
      · simp only [hk, if_true] at hg
        cases hg
        obtain ⟨a', ov, ea, _, g, hr⟩ := get_val fk hx I3 hy hk
        cases ea
        refine g_get2 hu I3 g ry ru fun w' s4 I4 rw' => ?_
        rcases hr with ⟨e1, rfl⟩ | ⟨d2, w2, e1, rfl, fz⟩
        · rw [e1] at q3
          exact ⟨u, H3, I4, rw', q3.fz fk he⟩
        · rw [e1] at q3
          exact ⟨w2, H3, I4, rw', q3.fz fk fz⟩
      · simp only [hk] at hg
        cases hg
    | _ => cases hg
  refine PE_imp core fun σ H Q ⟨F, A, ρ, ok, h⟩ => ?_
  have h : Aft G W RV F H A σ (bnd ma (fun x => bnd (isKind PyData.isDict x) fun _ => bnd mb fun y => bnd m fun u => bnd (kids x) fun d => bnd (peek y) fun k => lif (vl0 (getD2 d k u.2))) ρ) Q := h
  refine ⟨F, A, ρ, ok, h.bind (fun _ z => z) fun x ρ1 _ vx F1 H1 A1 B1 Z1 g1 ok1 r1 le1 y1 y2 y3 h1 => ?_⟩
  obtain ⟨d0, e0, k0, h1⟩ := h1.isKind
  refine ⟨dict_is (ok1.opd r1 e0) k0, F1, A1, ρ1, ok1, h1.bind y1 fun y ρ2 _ vy F2 H2 A2 B2 Z2 g2 ok2 r2 le2 w1 w2 w3 h2 => ?_⟩
  have apt : ∀ a, B1 a ≠ 0 → A1 a = 0 := fun a q => by have := le1 a; omega
  have live : ∀ a, B1 a ≠ 0 → H1 a ≠ none := fun a q => r1.live a q
  have r1' : RO F2 H2 σ ρ2 x vx B1 := r1.mono (g2.kp live apt)
  have sum : ∀ a, A2 a + B1 a + B2 a ≤ 1 := fun a => by
    have l1 := le1 a
    have l2 := le2 a
    by_cases q : B1 a = 0
    · omega
    · have := g2.apart live apt a q; omega
  refine ⟨F2, A2, ρ2, ok2, h2.bind w1 fun u ρ3 _ vu F3 H3 A3 B3 Z3 g3 ok3 r3 le3 v1 v2 v3 h3 => ?_⟩
  have ax : ∀ a, B1 a ≠ 0 → A2 a = 0 := fun a q => by have := sum a; omega
  have ay : ∀ a, B2 a ≠ 0 → A2 a = 0 := fun a q => by have := sum a; omega
  have r1'' : RO F3 H3 σ ρ3 x vx B1 := r1'.mono (g3.kp (fun a q => r1'.live a q) ax)
  have r2'' : RO F3 H3 σ ρ3 y vy B2 := r2.mono (g3.kp (fun a q => r2.live a q) ay)
  have sum3 : ∀ a, A3 a + B1 a + B2 a + B3 a ≤ 1 := fun a => by
    have l := le3 a
    have s := sum a
    by_cases q : B1 a = 0
    · by_cases q' : B2 a = 0
      · omega
      · have := g3.apart (fun a q => r2.live a q) ay a q'; omega
    · have := g3.apart (fun a q => r1'.live a q) ax a q; omega
  -- the third is shared
  obtain ⟨F4, B4, r4, ex4, ok4⟩ := ok3.lowT r3 le3 (Nat.zero_le _)
  have r1f : RO F4 H3 σ ρ3 x vx B1 := r1''.mono (ex4.kp fun a q => by have := sum3 a; omega)
  have r2f : RO F4 H3 σ ρ3 y vy B2 := r2''.mono (ex4.kp fun a q => by have := sum3 a; omega)
  have h3' := h3.base (ex4.base v2)
  obtain ⟨d, F5, A5, ρ5, ok5, k5, l5, s5, n5, h5⟩ := ok4.kids r1f (fun a => by have := sum3 a; omega) v1 (fun a q => v3 a (w3 a (y2 a q))) h3'
  have r2g : RO F5 H3 σ ρ5 y vy B2 := r2f.mono (kp_new s5 n5 fun a q => by have := sum3 a; omega)
  obtain ⟨k, ek, h5⟩ := h5.peek
  obtain ⟨w, ew, h5⟩ := h5.lif1
  cases eg : getD2 d k u.2 with
  | none => rw [eg] at ew; cases ew
  | some wd =>
    rw [eg] at ew
    cases ew
    exact ⟨F5, d, k, u.2, wd, ok5.fok, k5, ok5.opd r2g ek, Fz.mono s5 _ _ r4.1, eg, Aft.nw h5 ok5 fun a q => v1 a (l5 a q)⟩
/-! xs.append(v), xs.pop(i) -/
theorem mAppend_ok {F H : Hp} {A B : Ft} {σ : L2.St} {ρ ρ' : Sts} {i : Nat} {v w : Vl} {x y : V} {Q : VK} (ok : Ok F H σ ρ A) (hs : mAppend i v ρ = some (.ok w ρ')) (ei : σ[i]? = some (some x)) (r : Rep F H v.1 v.2 y B) (le : ∀ a, A a + B a ≤ 1)
    (h : ∀ F' H' A', Go F H (fun a => A a + B a) F' H' A' → Ok F' H' σ ρ' A' → w = (0, .none) → Q .non H') : rAppend x [y] H Q := by
  unfold mAppend at hs
  split at hs
  · rename_i k xs e
    split at hs
    · rename_i hl
      cases hs
      obtain ⟨j', F', A', B', ek, g, ok', r', le'⟩ := ok.meet e r le
      have e' : (ρ.set i (.val (j' + 1) (.list xs)))[i]? = some (.val (j' + 1) (.list xs)) := by
        rw [List.getElem?_set_self (List.getElem?_eq_some_iff.mp e).1]
      obtain ⟨a, vs, ea, eH, hlen⟩ := ok'.lstAt e'
      rw [ei] at ea; cases ea
      refine ⟨a, vs, y, rfl, rfl, eH, by omega, ?_⟩
      obtain ⟨A2, B2, _, g2, ok2, _, _⟩ := ok'.lstMut (PB := fun _ => True) (xs' := xs ++ [v.2]) (vs' := vs ++ [y]) e' ei eH le' (fun b z => Rep.live _ _ _ _ r' b z) fun C rc _ => ⟨_, fun _ => 0, Reps.app1 r' rc, trivial, fun b => by show C b + B' b + 0 ≤ _; omega⟩
      rw [List.set_set, ← ek] at ok2
      exact h F' _ A2 (g.trans (g2.less fun a z => by show A2 a + B2 a ≠ 0; omega)) ok2 rfl
    · cases hs
  · cases hs
theorem mPop_ok {F H : Hp} {A : Ft} {σ : L2.St} {ρ ρ' : Sts} {i : Nat} {dj : PyData} {w : Vl} {x jv : V} {Q : VK} (ok : Ok F H σ ρ A) (hs : mPop i dj ρ = some (.ok w ρ')) (ei : σ[i]? = some (some x)) (hj : DR H dj jv)
    (h : ∀ y H' A' B', Go F H A F H' (fun a => A' a + B' a) → Ok F H' σ ρ' A' → Rep F H' w.1 w.2 y B' → (∀ a, A' a + B' a ≤ 1) → Q y H') : rPopAt x [jv] H Q := by
  unfold mPop at hs
  split at hs
  · rename_i k xs j e
    split at hs
    · rename_i hj62
      obtain ⟨lo62, hi62⟩ := and_t hj62
      have lo62 := of_decide_eq_true lo62
      have hi62 := of_decide_eq_true hi62
      split at hs
      · rename_i n hn
        split at hs
        · rename_i w' hw
          cases hs
          cases (show jv = _ from hj)
          obtain ⟨a, vs, ea, eH, hlen⟩ := ok.lstAt e
          rw [ei] at ea; cases ea
          have hn' : ixN vs.length j = some n := by rw [hlen]; exact hn
          obtain ⟨s1, s2, s3, s4⟩ := ixN_seq hn'
          have hy : vs[n]? = some vs[n] := by simp [s2]
          refine ⟨a, vs, j, n, vs[n], rfl, rfl, eH, by omega, by omega, s1, hy, ?_⟩
          obtain ⟨A2, B', pb, g2, ok2, le2, kp⟩ := ok.lstMut (B := fun _ => 0) (PB := fun B' => Rep F H k w' vs[n] B') (xs' := xs.eraseIdx n) (vs' := vs.eraseIdx n) e ei eH (fun b => ok.one b) (fun b z => absurd rfl z) fun C rc _ => by
            obtain ⟨K', B', c1, c2, c3⟩ := Reps.del1 n hw hy rc
            exact ⟨K', B', c1, c2, fun b => by rw [c3 b]; show K' b + B' b ≤ K' b + B' b + 0; omega⟩
          refine h vs[n] _ A2 B' ⟨g2.ex, g2.fz, fun a z n => g2.fr a (by show A a + 0 = 0; omega) n, fun a z => (g2.nw a z).imp (fun q => by have q' : A a + 0 ≠ 0 := q; omega) _root_.id, fun a z => (g2.nf a z).imp (fun q => by have q' : A a + 0 ≠ 0 := q; omega) _root_.id⟩ ok2 (Rep.mono _ _ _ _ kp pb) le2
        · cases hs
      · cases hs
    · cases hs
  · cases hs
end
end PD
end
section
/-! PD16: append, pop, dict displays. -/
namespace PD
open PySem PySem.Spec PyProof.Rows L2
variable {α β : Type}
section
variable {G : Glob} {X : Cx} {W : WX} {cx : Ctx} {E : Expr → M Vl} {ma mb mc : M Opd} {a b o : Expr} {ap cp pos : Pos}
theorem e_append (c : Cxt G X cx) {x : PySem.Str} {p : Pos} {i : Nat} {m : M Vl} (hi : slotOf cx x = some i) (hr : recvOk (.Name x p) ap cp = true) (hn : noStar [a] = true) (ha : PE X a (tM G W RV m)) :
    PE X (.Call (.Attribute (.Name x p) "append" ap) [a] [] cp) (tM G W RV (bnd (isKind PyData.isList (.s i)) fun _ => bnd m fun v => mAppend i v)) := by
  obtain ⟨h1, h2⟩ := recv_ok hr (name := "append") (env := X.env)
  obtain ⟨n1, n2⟩ := noStar_cons (X := X) hn
  have ho : PE X (.Name x p) (tVar i) := pe_slot c hi
  refine PE_imp (pe_bm PySem.F.plainAttrs_list PySem.F.slot_list_append PySem.F.type_list_append (fun pins s σ H x xs v us Q I => mt_append pins s σ H x xs v us Q I) ho (pa_cons ha pa_nil n1) h1 (few1 hn (by simp)) h2 n1 (noStar_any n2)) fun σ H Q ⟨F, A, ρ, ok, h⟩ => ?_
  obtain ⟨d, e, k, h⟩ := h.isKind
  obtain ⟨vx, ex, dr⟩ := ok.at (show rdS ρ i = some d from e)
  refine ⟨vx, ex, list_ty dr k, F, A, ρ, ok, h.bind (fun _ z => z) fun v ρ1 _ y F1 H1 A1 B1 Z1 g1 ok1 r1 le1 y1 y2 y3 h1 => ?_⟩
  cases hs : mAppend i v ρ1 with
  | none => rw [hs] at h1; exact (h1 : False).elim
  | some r =>
    rw [hs] at h1
    cases r with
    | exc c d ρ2 =>
      unfold mAppend at hs
      split at hs
      · split at hs <;> cases hs
      · cases hs
    | ok w ρ2 =>
      refine mAppend_ok ok1 hs ex r1 le1 fun F' H' A' g ok2 hw => ?_
      subst hw
      have g' : Go F1 H1 Z1 F' H' (fun a => A' a + 0) := by
        have := g.big (Z := Z1) (fun a q => by have q' : A1 a + B1 a ≠ 0 := q; have := y1 a; have := y2 a; omega)
        exact this.less fun a q => by show A' a + Z1 a ≠ 0; have q' : A' a + 0 ≠ 0 := q; omega
      exact h1 .non F' H' A' (fun _ => 0) g' ok2 ⟨rfl, fun _ => rfl⟩ fun a => ok2.one a
theorem e_pop (c : Cxt G X cx) {x : PySem.Str} {p : Pos} {i : Nat} {m : M Vl} (hi : slotOf cx x = some i) (hr : recvOk (.Name x p) ap cp = true) (hn : noStar [a] = true) (ha : PE X a (tM G W RV m)) :
    PE X (.Call (.Attribute (.Name x p) "pop" ap) [a] [] cp) (tM G W RV (bnd (isKind PyData.isList (.s i)) fun _ => bnd m fun v => mPop i v.2)) := by
  obtain ⟨h1, h2⟩ := recv_ok hr (name := "pop") (env := X.env)
  obtain ⟨n1, n2⟩ := noStar_cons (X := X) hn
  have ho : PE X (.Name x p) (tVar i) := pe_slot c hi
  refine PE_imp (pe_bm PySem.F.plainAttrs_list PySem.F.slot_list_pop PySem.F.type_list_pop (fun pins s σ H x xs v us Q I => mt_popAt pins s σ H x xs v us Q I) ho (pa_cons ha pa_nil n1) h1 (few1 hn (by simp)) h2 n1 (noStar_any n2)) fun σ H Q ⟨F, A, ρ, ok, h⟩ => ?_
  obtain ⟨d, e, k, h⟩ := h.isKind
  obtain ⟨vx, ex, dr⟩ := ok.at (show rdS ρ i = some d from e)
  refine ⟨vx, ex, list_ty dr k, F, A, ρ, ok, h.bind (fun _ z => z) fun v ρ1 _ y F1 H1 A1 B1 Z1 g1 ok1 r1 le1 y1 y2 y3 h1 => ?_⟩
  cases hs : mPop i v.2 ρ1 with
  | none => rw [hs] at h1; exact (h1 : False).elim
  | some r =>
    rw [hs] at h1
    cases r with
    | exc c d ρ2 =>
      unfold mPop at hs
      split at hs
      · split at hs
        · split at hs
          · split at hs <;> cases hs
          · cases hs
        · cases hs
      · cases hs
    | ok w ρ2 =>
      have hy : DR H1 v.2 y := Rep.dr ok1.fok _ _ _ _ r1
      refine mPop_ok ok1 hs ex hy fun u H' A' B' g ok2 r2 le2 => ?_
      have g' : Go F1 H1 Z1 F1 H' (fun a => A' a + B' a) := by
        have := g.big (Z := Z1) y1
        exact this.less fun a q => by show A' a + B' a + Z1 a ≠ 0; have q' : A' a + B' a ≠ 0 := q; omega
      exact h1 u F1 H' A' B' g' ok2 r2 le2

/-! ### dict displays -/
/-- the pairs: the keys by what they are, the values with their footprints -/
def RepPs (F H : Hp) : List (PyData × Vl) → List (V × V) → Ft → Prop
  | [], xs, A => xs = [] ∧ ∀ a, A a = 0
  | (k, v) :: vs, xs, A => ∃ x y r B C, xs = (x, y) :: r ∧ (∀ q, k = keyPy q → x = kV q) ∧ Rep F H v.1 v.2 y B ∧ RepPs F H vs r C ∧ ∀ a, A a = B a + C a
theorem RepPs.len {F H : Hp} : ∀ {vs : List (PyData × Vl)} {xs : List (V × V)} {A : Ft}, RepPs F H vs xs A → vs.length = xs.length
  | [], _, _, h => by rw [h.1]; rfl
  | (k, v) :: vs, _, A, ⟨x, y, r, B, C, e, ek, h1, h2, h3⟩ => by subst e; simp [RepPs.len h2]
theorem e_pairs (hE : ∀ e, PE X e (tM G W RV (E e))) : ∀ (ks : List (Option Expr)) (vs : List Expr), ks.all (·.isSome) = true → ks.length = vs.length → ∃ trs, PPs X pos ks vs trs ∧
    ∀ {β : Type} {R' : Rr β V} {F H : Hp} {A Z : Ft} {σ : L2.St} {ρ : Sts} {k : List (PyData × Vl) → M β} {Q : V → Hp → Prop} {Q1 : List (V × V) → Hp → Prop}, Ok F H σ ρ A → Le A Z → Aft G W R' F H Z σ (bnd (evPairs E ks vs) k ρ) Q →
      (∀ ps xs F1 H1 A1 B1 Z1 ρ1, Go F H A F1 H1 (fun a => A1 a + B1 a) → Ok F1 H1 σ ρ1 A1 → RepPs F1 H1 ps xs B1 → (∀ a, A1 a + B1 a ≤ 1) → Le A1 Z1 → Le B1 Z1 → Le Z Z1 → Aft G W R' F1 H1 Z1 σ (k ps ρ1) Q → Q1 xs H1) → tPairs trs σ H Q1
  | [], [], _, _ => ⟨[], pps_nil, fun ok az h f => f [] [] _ _ _ (fun _ => 0) _ _ ((Go.refl _ _ _).less fun a q => by have q' : _ + 0 ≠ 0 := q; omega) ok ⟨rfl, fun _ => rfl⟩ (fun a => ok.one a) az (fun a q => absurd rfl q) (fun _ z => z) h⟩
  | [], _ :: _, _, hl => by simp at hl
  | _ :: _, [], _, hl => by simp at hl
  | none :: _, _ :: _, ha, _ => by cases ha
  | some ke :: ks, ve :: vs, ha, hl => by
    obtain ⟨trs, hp, hf⟩ := e_pairs hE ks vs (by rw [List.all_cons] at ha; exact (and_t ha).2) (by simpa using hl)
    refine ⟨_, pps_cons (hE ke) (hE ve) hp, fun {β R' F H A Z σ ρ k Q Q1} ok az h f => ?_⟩
    have h : Aft G W R' F H Z σ (bnd (bnd (E ke) fun dk => bnd (E ve) fun dv => bnd (evPairs E ks vs) fun r => ret ((dk.2, dv) :: r)) k ρ) Q := h
    rw [bnd_bnd] at h
    refine ⟨F, A, ρ, ok, h.bind az fun dk ρ1 _ x F1 H1 A1 B1 Z1 g1 ok1 r1 le1 y1 y2 y3 h1 => ?_⟩
    have hk : ∀ q, dk.2 = keyPy q → x = kV q := fun q e => by
      have dr := Rep.dr ok1.fok _ _ _ _ r1
      rw [e] at dr
      exact kV_of dr
    rw [bnd_bnd] at h1
    refine ⟨F1, A1, ρ1, ok1, h1.bind y1 fun dv ρ2 _ y F2 H2 A2 B2 Z2 g2 ok2 r2 le2 w1 w2 w3 h2 => ?_⟩
    rw [bnd_bnd] at h2
    refine hf ok2 w1 h2 fun ps xs F3 H3 A3 B3 Z3 ρ3 g3 ok3 r3 le3 v1 v2 v3 h3 => ?_
    have apt : ∀ a, B2 a ≠ 0 → A2 a = 0 := fun a q => by have := le2 a; omega
    have live : ∀ a, B2 a ≠ 0 → H2 a ≠ none := fun a q => Rep.live _ _ _ _ r2 a q
    have r2' := Rep.mono _ _ _ _ (g3.kp live apt) r2
    have le' : ∀ a, A3 a + (B2 a + B3 a) ≤ 1 := fun a => by
      have l2 := le2 a
      have l3 := le3 a
      by_cases q : B2 a = 0
      · omega
      · have := g3.apart live apt a q; omega
    refine f ((dk.2, dv) :: ps) ((x, y) :: xs) F3 H3 A3 (fun a => B2 a + B3 a) Z3 ρ3 ?_ ok3 ⟨x, y, xs, B2, B3, rfl, hk, r2', r3, fun _ => rfl⟩ le' v1 (fun a q => ?_) (fun a q => v3 a (w3 a (y3 a q))) h3
    · have gA : Go F H A F2 H2 (fun a => A2 a + B2 a) := (g1.less (B := A1) fun a q => by show A1 a + B1 a ≠ 0; omega).trans g2
      have g3' : Go F2 H2 (fun a => A2 a + B2 a) F3 H3 (fun a => A3 a + (B2 a + B3 a)) := by
        have := g3.big (Z := fun a => A2 a + B2 a) fun a q => by show A2 a + B2 a ≠ 0; omega
        exact this.less fun a q => by
          show A3 a + B3 a + (A2 a + B2 a) ≠ 0
          have q' : A3 a + (B2 a + B3 a) ≠ 0 := q
          omega
      exact gA.trans g3'
    · have q' : B2 a + B3 a ≠ 0 := q
      have l2 := w2 a
      have l3 := v2 a
      have l4 := v3 a
      by_cases p : B2 a = 0
      · exact l3 (by omega)
      · exact l4 (l2 p)
theorem merge_reps {R : PyData → V → Ft → Prop} : ∀ {ps : List (PyData × PyData)} {ms : List (Key × V)} {kvs : List (PyData × PyData)} {ks : List (Key × V)} {B C : Ft}, RepsK R ps ms B → RepsK R kvs ks C → (ks.map (·.1)).Nodup →
    ∃ D, RepsK R (mergeD kvs ps) (mergeK ks ms) D ∧ ∀ a, D a ≤ C a + B a
  | [], _, _, _, B, C, h, h0, _ => by
    obtain ⟨e, z⟩ := (show _ = [] ∧ _ from h)
    subst e
    exact ⟨C, h0, fun a => by omega⟩
  | (j, x) :: r, _, kvs, ks, B, C, ⟨q, w, t, D, E, e, ej, h1, h2, h3⟩, h0, nd => by
    subst e ej
    obtain ⟨C', c1, c2⟩ := RepsK.put h1 h0 nd
    obtain ⟨D', d1, d2⟩ := merge_reps h2 c1 (putK_nodup nd)
    exact ⟨D', d1, fun a => by have := c2 a; have := d2 a; rw [h3 a]; omega⟩
theorem pairs_level {H : Hp} (k : Nat) : ∀ {ps : List (PyData × Vl)} {xs : List (V × V)} {B : Ft} {F : Hp}, (∀ p, p ∈ ps → levOk k p.2) → (ps.all fun p => keyLeaf p.1) = true → FOk F H → RepPs F H ps xs B → (∀ a, B a ≤ 1) →
    ∃ F' B' ks, Exr F H F' B B' ∧ xs = ks.map (fun kv => (kV kv.1, kv.2)) ∧ RepsK (Rep F' H k) (ps.map fun p => (p.1, p.2.2)) ks B'
  | [], xs, B, F, _, _, fk, ⟨e, z⟩, _ => by subst e; exact ⟨F, B, [], .refl fk, rfl, rfl, z⟩
  | (kd, v) :: ps, _, B, F, hl, hk, fk, ⟨x, y, r, C, D, rfl, ex, h1, h2, h3⟩, le => by
    rw [List.all_cons] at hk
    obtain ⟨k1, k2⟩ := and_t hk
    obtain ⟨q, eq⟩ := leaf_key k1
    have eq' : kd = keyPy q := eq
    subst eq'
    obtain rfl := ex q rfl
    have one : ∃ F1 C1, Exr F H F1 C C1 ∧ Rep F1 H k v.2 y C1 := by
      rcases hl (keyPy q, v) (List.mem_cons_self ..) with z | z
      · obtain ⟨f1, f2⟩ := Rep.fz_imm _ _ _ _ z h1
        exact ⟨F, C, .refl fk, by
          have : C = fun _ => 0 := funext f2
          rw [this]
          exact Fz.rep_imm k _ _ z f1⟩
      · exact lower v.1 k z v.2 y C F fk h1 fun a => by have := le a; rw [h3 a] at this; omega
    obtain ⟨F1, C1, e1, r1⟩ := one
    have mono : ∀ {ps : List (PyData × Vl)} {xs : List (V × V)} {D : Ft}, Kp F H F1 H D → RepPs F H ps xs D → RepPs F1 H ps xs D := by
      intro ps
      induction ps with
      | nil => intro xs D _ h; exact h
      | cons p ps ih =>
        intro xs D kp ⟨x, y, r, B, C, e, ek, g1, g2, g3⟩
        exact ⟨x, y, r, B, C, e, ek, Rep.mono _ _ _ _ (kp.imp fun a z => by rw [g3 a]; omega) g1, ih (kp.imp fun a z => by rw [g3 a]; omega) g2, g3⟩
    have h2' : RepPs F1 H ps r D := mono (e1.kp fun a z => by have := le a; rw [h3 a] at this; omega) h2
    obtain ⟨F2, D1, ks, e2, er, r2⟩ := pairs_level k (fun p hp => hl p (List.mem_cons_of_mem _ hp)) k2 e1.fok h2' fun a => by have := le a; rw [h3 a] at this; omega
    have r1' : Rep F2 H k v.2 y C1 := Rep.mono k _ _ _ (e2.kp fun a z => by have := le a; rw [h3 a] at this; have := e1.le a; omega) r1
    subst er
    refine ⟨F2, fun a => C1 a + D1 a, (q, y) :: ks, ⟨e1.sub.trans e2.sub, e2.fok, fun a => by have := e1.le a; have := e2.le a; rw [h3 a]; omega, fun a z => ?_⟩, rfl, q, y, ks, C1, D1, rfl, rfl, r1', r2, fun _ => rfl⟩
    by_cases h : F1 a = F a
    · obtain ⟨q1, q2⟩ := e2.new a (by rw [h]; exact z)
      have := le a
      have := e1.le a
      rw [h3 a] at *
      exact ⟨by omega, by show C1 a + D1 a = 0; omega⟩
    · obtain ⟨q1, q2⟩ := e1.new a h
      have := le a
      have := e2.le a
      rw [h3 a] at *
      exact ⟨by omega, by show C1 a + D1 a = 0; omega⟩
theorem e_dict0 : PE X (.Dict [] [] pos) (tM G W RV (ret (1, .dict []))) :=
  PE_imp (pe_dnewK (X := X) (pos := pos)) fun σ H Q ⟨F, A, ρ, ok, h⟩ => (Aft.nw h ok fun _ z => z).dictK ok.fok rfl
/-- a root that was laid ahead -/
theorem Aft.root2 {F F' H : Hp} {A B B' Z : Ft} {σ : L2.St} {ρ : Sts} {v : Vl} {Q : VK} {p : Addr} {o : HO} (h : Aft G W RV F H Z σ (some (.ok v ρ)) Q) (ok : Ok F H σ ρ A) (ex : Exr F H F' B B') (le : ∀ a, A a + B a ≤ 1) (az : Le A Z) (bz : Le B Z) (zp : Z p ≠ 0) (fp : F' p = none) (ap : A p = 0) (bp : B' p = 0) (np : ∀ o u, H p ≠ some (.frz o u))
    (r : Rep F' (upd H p o) v.1 v.2 (.ref p) (fun a => sg p a + B' a)) : Q (.ref p) (upd H p o) := by
  have fk' : FOk F' (upd H p o) := fun a u e => rt_keep (upd_ne fun z => by rw [z, fp] at e; cases e) (ex.fok a u e)
  have rep' : RepS F' H ρ σ A := RepS.mono (ex.kp fun a z => by have := le a; omega) ok.rep
  have zA : ∀ a, A a ≠ 0 → a ≠ p := fun a z e => z (e ▸ ap)
  refine h _ F' (upd H p o) A (fun a => sg p a + B' a) ⟨ex.sub, fun a o' u h => (upd_ne fun z => by rw [z] at h; exact np _ _ h).trans h, fun a z n => upd_ne fun e => zp (e ▸ z), fun a z => ?_, fun a z => .inl (bz a (ex.new a z).1)⟩ ⟨fk', RepS.mono ⟨Sub.refl F', fun a z => upd_ne (zA a z), fun a z f => f⟩ rep', ok.one⟩ r fun a => ?_
  · have z' : A a + (sg p a + B' a) ≠ 0 := z
    by_cases e : a = p
    · rw [e]; exact .inl zp
    · rw [sg_ne e] at z'
      have := ex.le a
      have h1 := az a
      have h2 := bz a
      left
      by_cases q : A a = 0
      · exact h2 (by omega)
      · exact h1 q
  · have := ex.le a
    have := le a
    show A a + (sg p a + B' a) ≤ 1
    by_cases e : a = p
    · subst e; rw [sg_same]; omega
    · rw [sg_ne e]; omega
theorem e_dict (hE : ∀ e, PE X e (tM G W RV (E e))) {ks : List (Option Expr)} {vs : List Expr} (h1 : ks.all (·.isSome) = true) (h2 : ks.length = vs.length) (h3 : ks.length ≤ 15) (h0 : ks ≠ []) : PE X (.Dict ks vs pos) (tM G W RV (cDict (evPairs E ks vs))) := by
  obtain ⟨trs, hp, hf⟩ := e_pairs (X := X) (pos := pos) hE ks vs h1 h2
  refine PE_imp (pe_disp hp h1 h2 h0 h3) fun σ H Q ⟨F, A, ρ, ok, h⟩ p hp => ?_
  have ap : A p = 0 := by
    by_cases q : A p = 0
    · exact q
    · exact absurd hp (RepS.live ok.rep p q)
  have fp : F p = none := ok.fok.free hp
  obtain ⟨ok', _⟩ := ok.beside (B := fun _ => 0) ((Go.new (o := .dK []) hp).less fun a z => absurd rfl z) (ok.fok.new hp) fun _ => Nat.zero_le _
  have g0 : Go F H A F (upd H p (.dK [])) (fun a => A a + sg p a) := ⟨Sub.refl F, fun a o' u h => (upd_ne fun z => by rw [z, hp] at h; cases h).trans h, fun a _ n => upd_ne fun z => n (z ▸ hp), fun a z => by
    have z' : A a + sg p a ≠ 0 := z
    by_cases e : a = p
    · rw [e]; exact .inr hp
    · rw [sg_ne e] at z'; exact .inl (by omega), fun a z => absurd rfl z⟩
  refine hf ok' (fun a q => by show A a + sg p a ≠ 0; omega) (h.base g0) fun ps xs F1 H1 A1 B1 Z1 ρ1 g okk r1 le1 z1 z2 z3 h => ?_
  have hp1 : upd H p (.dK []) p ≠ none := by rw [upd_same]; exact fun z => nomatch z
  have e1 : H1 p = some (.dK []) := (g.fr p ap hp1).trans upd_same
  have f1 : F1 p = none := by
    by_cases q : F1 p = F p
    · rw [q]; exact fp
    · rcases g.nf p q with z | z
      · exact absurd ap z
      · exact absurd z hp1
  have zero : A1 p + B1 p = 0 := by
    by_cases q : A1 p + B1 p = 0
    · exact q
    · rcases g.nw p q with z | z
      · exact absurd ap z
      · exact absurd z hp1
  split at h
  · rename_i hc
    obtain ⟨c1, c2⟩ := and_t hc
    have c1 := of_decide_eq_true c1
    obtain ⟨F', B', ks', ex, rfl, rk⟩ := pairs_level (lev (ps.map (·.2))) (fun q hq => lev_ok _ _ (List.mem_map.mpr ⟨q, hq, rfl⟩)) c2 okk.fok r1 fun a => by have := le1 a; omega
    have len : ps.length = ks'.length := by rw [RepPs.len r1, List.length_map]
    refine ⟨e1, ks', rfl, by omega, ?_⟩
    obtain ⟨D, d1, d2⟩ := merge_reps (kvs := []) (ks := []) (C := fun _ => 0) rk ⟨rfl, fun _ => rfl⟩ List.nodup_nil
    have bp : B' p = 0 := by have := ex.le p; omega
    have f2 : F' p = none := by
      by_cases q : F' p = F1 p
      · rw [q]; exact f1
      · exact absurd (show B1 p = 0 by omega) (ex.new p q).1
    have dp : D p = 0 := by have := d2 p; omega
    have ex' : Exr F1 H1 F' B1 D := ⟨ex.sub, ex.fok, fun a => by have := d2 a; have := ex.le a; omega, fun a z => ⟨(ex.new a z).1, by have := d2 a; have := (ex.new a z).2; omega⟩⟩
    refine Aft.root2 (show Aft G W RV F1 H1 Z1 σ (some (.ok _ ρ1)) Q from h) okk ex' le1 z1 z2 (z3 p (by show A p + sg p p ≠ 0; rw [sg_same]; omega)) f2 (by omega) dp (fun o u q => by rw [e1] at q; cases q) ⟨p, D, rfl, f2, .inl ⟨_, upd_same, ?_⟩, fun a => rfl⟩
    have e2 : (ps.map fun q => (q.1, q.2.2)) = ps.map fun p => (p.1, p.2.2) := rfl
    exact RepsK.imp (fun x v C hc => Rep.mono _ x v C ⟨Sub.refl F', fun a z => upd_ne fun e => by subst e; have := hc a; omega, fun a z f => f⟩) d1
  · exact (h : False).elim
end
end PD
end
section
/-! PD17: calls of the text's own defs. -/
namespace PD
open PySem PySem.Spec PyProof.Rows L2
variable {α β : Type}
/-- what the evaluator promises of a def -/
def spC (G : Glob) (cl : Callee) (f : PySem.Str) : Sp := fun vs H Q E => ∃ F A ss, FOk F H ∧ RepS F H ss (vs.map some) A ∧ (∀ a, A a ≤ 1) ∧ (match cl f ss with
  | none => False
  | some (.exc c d) => ∀ cls dx F' H' A', Go F H A F' H' A' → FOk F' H' → ExcRep G F' H' c d cls dx → E cls dx H'
  | some (.ok v back) => ∀ x F' H' A' B, Go F H A F' H' (fun a => A' a + B a) → FOk F' H' → RepS F' H' back (vs.map some) A' → Rep F' H' v.1 v.2 x B → (∀ a, A' a + B a ≤ 1) → Q x H')
/-- how arguments are bound -/
def FBind (fd : FuncData) (ps : List PySem.Str) : Prop := ∀ (us : List Value) (ks : List PySem.Str) (ws vs : List Value), ks.length = ws.length → picks ks ws (ps.drop us.length) = some vs → kwOk ps us.length ks = true → bindArgs fd ⟨us, ks.zip ws⟩ = pure (ps.zip (us ++ vs))
structure FnG (G : Glob) (cl : Callee) (k : Nat) (f : PySem.Str) (fn : Fn) (a : Addr) (fd : FuncData) : Prop where
  mg : G.mg f = some (.ref a)
  kp : PySem.W.keepIn G.K (.ref a) = true
  nm : (f == ("__debug__" : PySem.Str)) = false
  bd : FBind fd fn.ps
  nd : fn.ps.Nodup
  len : ∀ ss, cl f ss ≠ none → ss.length = fn.ps.length
  run : ∀ (A : Around) (outer : List Env) (s : Shared) (H : Hp) (args : Args) (us : List Value) (vs : List V) (Q : VK) (E : XK), Room k A → A.guards = some [] → Env0 G.P G.w G.K G.mg G.base A outer s H → BindsTo s fd args (fn.ps.zip us) → Vals vs us → spC G cl f vs H Q E →
    codeAny (model G.P G.w) A (.call (.ref a) args) (CR (CX G.P G.w) outer G.P G.w H s Q E) s
/-- all defs of the text -/
def Fns (G : Glob) (cl : Callee) (k : Nat) : Prop := ∀ f fn, G.pg.fn f = some fn → ∃ a fd, FnG G cl k f fn a fd
/-- the world of a body -/
structure Wld (G : Glob) (X : Cx) : Prop where
  prog : X.prog = G.P
  w : X.w = G.w
  K : X.K = G.K
  mg : X.mg = G.mg
  base : X.base = G.base
theorem picks_len {ks : List PySem.Str} {vs : List α} : ∀ {ps : List PySem.Str} {l : List α}, picks ks vs ps = some l → l.length = ps.length
  | [], l, h => by cases h; rfl
  | p :: ps, l, h => by
    unfold picks at h
    split at h
    · rename_i v l' e1 e2
      cases h
      rw [List.length_cons, List.length_cons, picks_len e2]
    · cases h
section
variable {G : Glob} {X : Cx} {W : WX} {cx : Ctx} {E : Expr → M Vl} {cl : Callee} {k : Nat} {f : PySem.Str} {fn : Fn} {a : Addr} {fd : FuncData}
theorem spC_len (Fg : FnG G cl k f fn a fd) {vs : List V} {H : Hp} {Q : VK} {E : XK} (h : spC G cl f vs H Q E) : vs.length = fn.ps.length := by
  obtain ⟨F, A, ss, fk, rs, le, h⟩ := h
  have l1 := RepS.len rs
  rw [List.length_map] at l1
  rw [← l1]
  refine Fg.len ss fun e => ?_
  rw [e] at h
  exact h
theorem runG (wd : Wld G X) (Fg : FnG G cl k f fn a fd) (hr : Room k X.A) (hgd : X.A.guards = some []) (tk : Takes X W) {pins : List (Addr × Obj)} {σ : L2.St} {H : Hp} {s : Shared} {Q : VK} {us ws : List Value} {vs zs all : List V} {ks : List PySem.Str} (I : Inv X pins σ H s)
    (r : Vals vs us) (rz : Vals zs ws) (hk : kwOk fn.ps vs.length ks = true) (hl : ks.length = zs.length) (hp : picks ks zs (fn.ps.drop vs.length) = some all) (h : spC G cl f (vs ++ all) H Q (fun cls d H' => W cls d σ H')) :
    wpAny (model X.prog X.w) X.A (call (.ref a) us (ks.zip ws)) (EP X pins σ Q) X.xe s := by
  have hlen := spC_len Fg h
  have rl := r.length
  have rzl := rz.length
  have pick_rel : ∀ {p : PySem.Str} {z : V}, pick ks zs p = some z → ∃ w, pick ks ws p = some w ∧ RelV z w := fun {p z} e => by
    unfold pick at e ⊢
    cases q : ks.idxOf? p with
    | none => rw [q] at e; cases e
    | some i =>
      rw [q] at e
      exact rz.get e
  have picks_rel : ∀ {ps : List PySem.Str} {l : List V}, picks ks zs ps = some l → ∃ l', picks ks ws ps = some l' ∧ Vals l l' := by
    intro ps
    induction ps with
    | nil => intro l e; cases e; exact ⟨[], rfl, .nil⟩
    | cons p ps ih =>
      intro l e
      unfold picks at e
      split at e
      · rename_i v l' e1 e2
        cases e
        obtain ⟨w, h1, h2⟩ := pick_rel e1
        obtain ⟨l2, h3, h4⟩ := ih e2
        exact ⟨w :: l2, by unfold picks; rw [h1, h3], .cons h2 h4⟩
      · cases e
  obtain ⟨all', hp', rall⟩ := picks_rel hp
  have r2 : Vals (vs ++ all) (us ++ all') := r.append rall
  have e0 : Env0 G.P G.w G.K G.mg G.base X.A X.stack s H := by
    have := I.env0
    rw [wd.prog, wd.w, wd.K, wd.mg, wd.base] at this
    exact this
  have bt : BindsTo s fd ⟨us, ks.zip ws⟩ (fn.ps.zip (us ++ all')) := .of_eq (Fg.bd us ks ws all' (by omega) (by rw [← rl]; exact hp') (by rw [← rl]; exact hk))
  rw [wd.prog, wd.w]
  refine wpAny_call (codeAny_mono (Fg.run X.A X.stack s H ⟨us, ks.zip ws⟩ (us ++ all') (vs ++ all) Q _ hr hgd e0 bt r2 h) fun r s' hq => ?_)
  cases r with
  | error e =>
    exact tk e s' (XE.of_call I (fun _ _ _ h => h) (by rw [wd.prog, wd.w]; exact hq))
  | ok fl =>
    cases fl with
    | ret u =>
      have hq' : CE X.stack X.prog X.w H s Q u s' := by rw [wd.prog, wd.w]; exact hq
      exact I.after hq'
    | next => exact False.elim hq
    | brk => exact False.elim hq
    | cont => exact False.elim hq

/-! ### arguments -/
def RepAs (F H : Hp) (σ : L2.St) : List Arg → List V → Ft → Prop
  | [], xs, A => xs = [] ∧ ∀ a, A a = 0
  | .v v :: vs, xs, A => ∃ x r B C, xs = x :: r ∧ Rep F H v.1 v.2 x B ∧ RepAs F H σ vs r C ∧ ∀ a, A a = B a + C a
  | .lend i :: vs, xs, A => ∃ x r, xs = x :: r ∧ σ[i]? = some (some x) ∧ RepAs F H σ vs r A
def RAs : Rr (List Arg) (List V) := fun F H σ _ as xs B => RepAs F H σ as xs B
theorem RepAs.len {F H : Hp} {σ : L2.St} : ∀ {as : List Arg} {xs : List V} {A : Ft}, RepAs F H σ as xs A → as.length = xs.length
  | [], _, _, h => by rw [h.1]; rfl
  | .v v :: vs, _, A, ⟨x, r, B, C, e, h1, h2, h3⟩ => by subst e; simp [RepAs.len h2]
  | .lend i :: vs, _, A, ⟨x, r, e, h1, h2⟩ => by subst e; simp [RepAs.len h2]
theorem RepAs.live {F H : Hp} {σ : L2.St} : ∀ {as : List Arg} {xs : List V} {A : Ft}, RepAs F H σ as xs A → ∀ a, A a ≠ 0 → H a ≠ none
  | [], _, _, h, a, z => absurd (h.2 a) z
  | .v v :: vs, _, A, ⟨x, r, B, C, e, h1, h2, h3⟩, a, z => by
    by_cases hb : B a = 0
    · exact RepAs.live h2 a (by rw [h3 a] at z; omega)
    · exact Rep.live _ _ _ _ h1 a hb
  | .lend i :: vs, _, A, ⟨x, r, e, h1, h2⟩, a, z => RepAs.live h2 a z
theorem RepAs.mono {F H F' H' : Hp} {σ : L2.St} : ∀ {as : List Arg} {xs : List V} {A : Ft}, Kp F H F' H' A → RepAs F H σ as xs A → RepAs F' H' σ as xs A
  | [], _, _, _, h => h
  | .v v :: vs, _, A, k, ⟨x, r, B, C, e, h1, h2, h3⟩ => ⟨x, r, B, C, e, Rep.mono _ _ _ _ (k.imp fun a z => by rw [h3 a]; omega) h1, RepAs.mono (k.imp fun a z => by rw [h3 a]; omega) h2, h3⟩
  | .lend i :: vs, _, A, k, ⟨x, r, e, h1, h2⟩ => ⟨x, r, e, h1, RepAs.mono k h2⟩
theorem RepAs.app {F H : Hp} {σ : L2.St} {bs : List Arg} {ys : List V} {B : Ft} (h' : RepAs F H σ bs ys B) : ∀ {as : List Arg} {xs : List V} {A : Ft}, RepAs F H σ as xs A → RepAs F H σ (as ++ bs) (xs ++ ys) (fun a => A a + B a)
  | [], _, A, h => by
    obtain ⟨e, z⟩ := h
    subst e
    have : (fun a => A a + B a) = B := funext fun a => by rw [z a]; omega
    rw [this]
    exact h'
  | .v v :: vs, _, A, ⟨x, r, C, D, e, h1, h2, h3⟩ => by subst e; exact ⟨x, _, C, _, rfl, h1, RepAs.app h' h2, fun a => by show A a + B a = C a + (D a + B a); rw [h3 a]; omega⟩
  | .lend i :: vs, _, A, ⟨x, r, e, h1, h2⟩ => by subst e; exact ⟨x, _, rfl, h1, RepAs.app h' h2⟩
/-- one argument -/
def ArgStep (G : Glob) (W : WX) (m0 : M Arg) (t : TE) : Prop := ∀ {F H : Hp} {A Z : Ft} {σ : L2.St} {ρ : Sts} {k : Arg → M (List Arg)} {Q : List V → Hp → Prop} {Q1 : VK}, Ok F H σ ρ A → Le A Z → Aft G W RAs F H Z σ (bnd m0 k ρ) Q →
  (∀ a x F1 H1 A1 B1 Z1 ρ1, Go F H A F1 H1 (fun a => A1 a + B1 a) → Ok F1 H1 σ ρ1 A1 → (∀ {F' H' : Hp} {as : List Arg} {xs : List V} {C : Ft}, Kp F1 H1 F' H' B1 → RepAs F' H' σ as xs C → RepAs F' H' σ (a :: as) (x :: xs) (fun a => B1 a + C a)) → (∀ a, B1 a ≠ 0 → H1 a ≠ none) → (∀ a, A1 a + B1 a ≤ 1) → Le A1 Z1 → Le B1 Z1 → Le Z Z1 →
    Aft G W RAs F1 H1 Z1 σ (k a ρ1) Q → Q1 x H1) → t σ H Q1
theorem arg_plain {e : Expr} (hE : PE X e (tM G W RV (E e))) : ArgStep G W (bnd (E e) fun v => ret (Arg.v v)) (tM G W RV (E e)) := fun {F H A Z σ ρ k Q Q1} ok az h f => by
  rw [bnd_bnd] at h
  refine ⟨F, A, ρ, ok, h.bind az fun v ρ1 _ x F1 H1 A1 B1 Z1 g ok1 r1 le1 z1 z2 z3 h1 => ?_⟩
  exact f (.v v) x F1 H1 A1 B1 Z1 ρ1 g ok1 (fun kp ra => ⟨x, _, B1, _, rfl, Rep.mono _ _ _ _ kp r1, ra, fun _ => rfl⟩) (fun a q => Rep.live _ _ _ _ r1 a q) le1 z1 z2 z3 h1
theorem arg_lend {i : Nat} : ArgStep G W (bnd (slotO i) fun _ => ret (Arg.lend i)) (tVar i) := fun {F H A Z σ ρ k Q Q1} ok az h f => by
  rw [bnd_bnd] at h
  unfold bnd slotO at h
  cases e : rdS ρ i with
  | none => simp only [e] at h; exact (h : False).elim
  | some d =>
    simp only [e] at h
    obtain ⟨v, ev, _⟩ := ok.at e
    refine ⟨v, ev, f (.lend i) v F H A (fun _ => 0) Z ρ ((Go.refl F H A).less fun a q => by have q' : A a + 0 ≠ 0 := q; omega) ok (fun {F' H' as xs C} kp ra => ?_) (fun a q => absurd rfl q) (fun a => ok.one a) az (fun a q => absurd rfl q) (fun _ z => z) h⟩
    have : (fun a => 0 + C a) = C := funext fun a => by omega
    rw [this]
    exact ⟨v, xs, rfl, ev, ra⟩
theorem arg_one (c : Cxt G X cx) (hE : ∀ e, PE X e (tM G W RV (E e))) (io : List Bool) (e : Expr) (es : List Expr) : ∃ (m0 : M Arg) (t : TE), PE X e t ∧ (∀ ρ, argsOf cx E io (e :: es) ρ = bnd m0 (fun a => bnd (argsOf cx E (io.drop 1) es) fun as => ret (a :: as)) ρ) ∧ ArgStep G W m0 t := by
  have generic : (∀ ρ, argsOf cx E io (e :: es) ρ = bnd (bnd (E e) fun v => ret (Arg.v v)) (fun a => bnd (argsOf cx E (io.drop 1) es) fun as => ret (a :: as)) ρ) →
      ∃ (m0 : M Arg) (t : TE), PE X e t ∧ (∀ ρ, argsOf cx E io (e :: es) ρ = bnd m0 (fun a => bnd (argsOf cx E (io.drop 1) es) fun as => ret (a :: as)) ρ) ∧ ArgStep G W m0 t := fun he => ⟨_, _, hE e, he, arg_plain (hE e)⟩
  cases io with
  | nil => exact generic fun ρ => by cases e <;> rfl
  | cons b io =>
    cases b with
    | false => exact generic fun ρ => by cases e <;> rfl
    | true =>
      cases e with
      | Name x p =>
        have eq : ∀ ρ, argsOf cx E (true :: io) (.Name x p :: es) ρ = bnd (match slotOf cx x with
          | some i => bnd (slotO i) fun _ => ret (Arg.lend i)
          | none => bnd (E (.Name x p)) fun v => ret (Arg.v v)) (fun a => bnd (argsOf cx E io es) fun as => ret (a :: as)) ρ := fun ρ => rfl
        cases hs : slotOf cx x with
        | none =>
          refine generic fun ρ => ?_
          rw [eq, hs]
          rfl
        | some i =>
          refine ⟨_, _, pe_slot c hs, fun ρ => ?_, arg_lend⟩
          rw [eq, hs]
          rfl
      | _ => exact generic fun ρ => rfl
theorem e_args (c : Cxt G X cx) (hE : ∀ e, PE X e (tM G W RV (E e))) : ∀ (io : List Bool) (es : List Expr), noStar es = true → PA X es (tM G W RAs (argsOf cx E io es))
  | io, [], _ => PA_imp pa_nil fun σ H Q ⟨F, A, ρ, ok, h⟩ => by
    have h : Aft G W RAs F H A σ (some (.ok [] ρ)) Q := by
      cases io <;> exact h
    exact h [] F H A (fun _ => 0) ((Go.refl F H A).less fun a z => by have z' : A a + 0 ≠ 0 := z; omega) ok ⟨rfl, fun _ => rfl⟩ (fun a => ok.one a)
  | io, e :: es, hn => by
    obtain ⟨n1, n2⟩ := noStar_cons (X := X) hn
    obtain ⟨m0, t, ht, he, hf⟩ := arg_one (G := G) (W := W) c hE io e es
    refine PA_imp (pa_cons ht (e_args c hE (io.drop 1) es n2) n1) fun σ H Q ⟨F, A, ρ, ok, h⟩ => ?_
    rw [he] at h
    refine hf ok (fun _ z => z) h fun a x F1 H1 A1 B1 Z1 ρ1 g1 ok1 r1 live le1 y1 y2 y3 h1 => ?_
    refine ⟨F1, A1, ρ1, ok1, h1.bind y1 fun as ρ2 _ xs F2 H2 A2 B2 Z2 g2 ok2 r2 le2 w1 w2 w3 h2 => ?_⟩
    have apt : ∀ a, B1 a ≠ 0 → A1 a = 0 := fun a q => by have := le1 a; omega
    refine h2 (x :: xs) F2 H2 A2 (fun a => B1 a + B2 a) ((Go.refl F2 H2 Z2).less fun a q => ?_) ok2 (r1 (g2.kp live apt) r2) fun a => ?_
    · have q' : A2 a + (B1 a + B2 a) ≠ 0 := q
      have h1 := w1 a
      have h2 := w2 a
      have h3 := w3 a
      have h4 := y2 a
      by_cases p : B1 a = 0
      · by_cases p2 : A2 a = 0
        · exact h2 (by omega)
        · exact h1 p2
      · exact h3 (h4 p)
    · have l1 := le1 a
      have l2 := le2 a
      show A2 a + (B1 a + B2 a) ≤ 1
      by_cases p : B1 a = 0
      · omega
      · have := g2.apart live apt a p
        omega
end
end PD
end
section
/-! PD18: a call. -/
namespace PD
open PySem PySem.Spec PyProof.Rows L2
variable {α β : Type}
section
variable {G : Glob} {X : Cx} {W : WX} {cx : Ctx} {E : Expr → M Vl} {cl : Callee} {k : Nat} {f : PySem.Str} {fn : Fn} {a : Addr} {fd : FuncData}
theorem toSlots_ok {F H : Hp} {σ : L2.St} : ∀ {as : List Arg} {xs : List V} {ρ ρ' : Sts} {ss : List Slot} {A B : Ft}, Ok F H σ ρ A → RepAs F H σ as xs B → (∀ a, A a + B a ≤ 1) → toSlots ρ as = some (ss, ρ') →
    ∃ A' C, Ok F H σ ρ' A' ∧ RepS F H ss (xs.map some) C ∧ ∀ a, A' a + C a ≤ A a + B a
  | [], xs, ρ, ρ', ss, A, B, ok, ⟨e, z⟩, le, h => by
    subst e
    cases h
    exact ⟨A, fun _ => 0, ok, ⟨rfl, fun _ => rfl⟩, fun a => by show A a + 0 ≤ A a + B a; omega⟩
  | .v v :: as, _, ρ, ρ', ss, A, B, ok, ⟨x, r, B1, B2, e, h1, h2, h3⟩, le, h => by
    subst e
    unfold toSlots at h
    split at h
    · rename_i l ρ1 e1
      cases h
      obtain ⟨A', C, ok', rs, q⟩ := toSlots_ok ok h2 (fun a => by have := le a; rw [h3 a] at this; omega) e1
      exact ⟨A', fun a => B1 a + C a, ok', ⟨some x, _, B1, C, rfl, ⟨x, rfl, h1⟩, rs, fun _ => rfl⟩, fun a => by have := q a; rw [h3 a]; show A' a + (B1 a + C a) ≤ _; omega⟩
    · cases h
  | .lend i :: as, _, ρ, ρ', ss, A, B, ok, ⟨x, r, e, h1, h2⟩, le, h => by
    subst e
    unfold toSlots at h
    split at h
    · rename_i n d e0
      split at h
      · rename_i l ρ1 e1
        cases h
        obtain ⟨o, D, D', e2, g1, g2, g3⟩ := RepS.focus ok.rep e0
        rw [h1] at e2
        cases e2
        have rep : RepS F H (ρ.set i .dead) σ D' := by
          have := g3 F H .dead (some x) (fun _ => 0) D' ⟨Sub.refl F, fun _ _ => rfl, fun _ _ f => f⟩ (fun _ => rfl) fun a => by show D' a = 0 + D' a; omega
          rw [set_self h1] at this
          exact this
        have one := ok.one
        have ok1 : Ok F H σ (ρ.set i .dead) D' := ⟨ok.fok, rep, fun a => by have := one a; rw [g2 a] at this; omega⟩
        obtain ⟨A', C, ok', rs, q⟩ := toSlots_ok ok1 h2 (fun a => by have := le a; rw [g2 a] at this; omega) e1
        exact ⟨A', fun a => D a + C a, ok', ⟨some x, _, D, C, rfl, g1, rs, fun _ => rfl⟩, fun a => by have := q a; rw [g2 a]; show A' a + (D a + C a) ≤ _; omega⟩
      · cases h
    · cases h
theorem backAll_ok {F0 H0 F H : Hp} {σ : L2.St} : ∀ {as : List Arg} {xs : List V} {ρ : Sts} {back : List Slot} {B A D : Ft}, RepAs F0 H0 σ as xs B → Ok F H σ ρ A → RepS F H back (xs.map some) D → (∀ a, A a + D a ≤ 1) → ∃ A', Ok F H σ (backAll ρ as back) A' ∧ ∀ a, A' a ≤ A a + D a
  | [], xs, ρ, back, B, A, D, _, ok, _, le => ⟨A, by cases back <;> exact ok, fun a => by omega⟩
  | .v v :: as, _, ρ, back, B, A, D, ⟨x, r, B1, B2, e, h1, h2, h3⟩, ok, rb, le => by
    subst e
    cases back with
    | nil => exact ⟨A, ok, fun a => by omega⟩
    | cons b bs =>
      obtain ⟨o, r', D1, D2, e, g1, g2, g3⟩ := rb
      cases e
      obtain ⟨A', ok', q⟩ := backAll_ok h2 ok g2 fun a => by have := le a; rw [g3 a] at this; omega
      exact ⟨A', ok', fun a => by have := q a; rw [g3 a]; omega⟩
  | .lend i :: as, _, ρ, back, B, A, D, ⟨x, r, e, h1, h2⟩, ok, rb, le => by
    subst e
    cases back with
    | nil => exact ⟨A, ok, fun a => by omega⟩
    | cons b bs =>
      obtain ⟨o, r', D1, D2, e, g1, g2, g3⟩ := rb
      cases e
      have step : ∃ A1, Ok F H σ (ρ.set i b) A1 ∧ ∀ a, A1 a ≤ A a + D1 a := by
        cases hi : ρ[i]? with
        | none =>
          have : ρ.set i b = ρ := List.set_eq_of_length_le (List.getElem?_eq_none_iff.mp hi)
          rw [this]
          exact ⟨A, ok, fun a => by omega⟩
        | some s =>
          obtain ⟨o, K, K', e2, f1, f2, f3⟩ := RepS.focus ok.rep hi
          have := f3 F H b (some x) D1 (fun a => D1 a + K' a) ⟨Sub.refl F, fun _ _ => rfl, fun _ _ f => f⟩ g1 fun _ => rfl
          rw [set_self h1] at this
          exact ⟨_, ⟨ok.fok, this, fun a => by have := le a; rw [f2 a, g3 a] at this; show D1 a + K' a ≤ 1; omega⟩, fun a => by rw [f2 a]; show D1 a + K' a ≤ _; omega⟩
      obtain ⟨A1, ok1, q1⟩ := step
      obtain ⟨A', ok', q⟩ := backAll_ok h2 ok1 g2 fun a => by have := le a; rw [g3 a] at this; have := q1 a; omega
      exact ⟨A', ok', fun a => by have := q a; have := q1 a; rw [g3 a]; omega⟩
theorem cCall_ok {F H : Hp} {A B Z : Ft} {σ : L2.St} {ρ : Sts} {as : List Arg} {xs : List V} {Q : VK} (ok : Ok F H σ ρ A) (ra : RepAs F H σ as xs B) (le : ∀ a, A a + B a ≤ 1) (az : Le A Z) (bz : Le B Z) (h : Aft G W RV F H Z σ (cCall cl f as ρ) Q) :
    spC G cl f xs H Q (fun cls d H' => W cls d σ H') := by
  unfold cCall at h
  cases e : toSlots ρ as with
  | none => rw [e] at h; exact (h : False).elim
  | some p =>
    obtain ⟨ss, ρ'⟩ := p
    rw [e] at h
    obtain ⟨A1, C, ok1, rs, q⟩ := toSlots_ok ok ra le e
    have sum : ∀ a, A1 a + C a ≤ 1 := fun a => Nat.le_trans (q a) (le a)
    have inZ : ∀ a, A1 a + C a ≠ 0 → Z a ≠ 0 := fun a z => by
      have := q a
      by_cases p : A a = 0
      · exact bz a (by omega)
      · exact az a p
    refine ⟨F, C, ss, ok.fok, rs, fun a => by have := sum a; omega, ?_⟩
    have live : ∀ a, A1 a ≠ 0 → H a ≠ none := fun a z => RepS.live ok1.rep a z
    have apt : ∀ a, A1 a ≠ 0 → C a = 0 := fun a z => by have := sum a; omega
    -- from the call's change to ours
    have after : ∀ {F' H' : Hp} {D : Ft}, Go F H C F' H' D → FOk F' H' → (∀ a, D a ≤ 1) → Ok F' H' σ ρ' A1 ∧ (∀ a, A1 a + D a ≤ 1) ∧ Go F H Z F' H' (fun a => A1 a + D a) := fun {F' H' D} g fk dl => by
      refine ⟨⟨fk, RepS.mono (g.kp live apt) ok1.rep, ok1.one⟩, fun a => ?_, ⟨g.ex, g.fz, fun a z n => g.fr a (by have := inZ a; omega) n, fun a z => ?_, fun a z => ?_⟩⟩
      · have := ok1.one a
        have := dl a
        by_cases p : A1 a = 0
        · omega
        · have := g.apart live apt a p; omega
      · have z' : A1 a + D a ≠ 0 := z
        by_cases p : A1 a = 0
        · rcases g.nw a (by omega) with r | r
          · exact .inl (inZ a (by omega))
          · exact .inr r
        · exact .inl (inZ a (by omega))
      · rcases g.nf a z with r | r
        · exact .inl (inZ a (by omega))
        · exact .inr r
    show (match cl f ss with
      | none => False
      | some (.exc c d) => _
      | some (.ok v back) => _)
    cases er : cl f ss with
    | none => simp only [er] at h; exact h
    | some r =>
      cases r with
      | exc c d =>
        simp only [er] at h
        intro cls dx F' H' A' g fk ex
        exact h cls dx F' H' A1 ⟨g.ex, g.fz, fun a z n => g.fr a (by have := inZ a; omega) n, fun a z => .inl (inZ a (by omega)), fun a z => (g.nf a z).imp (fun r => inZ a (by omega)) _root_.id⟩ ⟨fk, RepS.mono (g.kp live apt) ok1.rep, ok1.one⟩ ex
      | ok v back =>
        simp only [er] at h
        intro x F' H' A' B' g fk rb rv le'
        obtain ⟨ok2, le2, g2⟩ := after g fk fun a => le' a
        obtain ⟨A3, ok3, q3⟩ := backAll_ok ra ok2 rb fun a => by have := le2 a; have h : A1 a + (A' a + B' a) ≤ 1 := this; omega
        refine h x F' H' A3 B' (g2.less fun a z => ?_) ok3 rv fun a => ?_
        · have z' : A3 a + B' a ≠ 0 := z
          have := q3 a
          show A1 a + (A' a + B' a) ≠ 0
          omega
        · have h1 : A1 a + (A' a + B' a) ≤ 1 := le2 a
          have := q3 a
          omega

/-! ### the call as an expression -/
structure Run (G : Glob) (X : Cx) (cl : Callee) (k : Nat) : Prop where
  wd : Wld G X
  fns : Fns G cl k
  room : Room k X.A
  gd : X.A.guards = some []
theorem kwOk_nil {ps : List PySem.Str} {n : Nat} (h : n = ps.length) (nd : ps.Nodup) : kwOk ps n [] = true := by
  subst h
  unfold kwOk
  rw [List.drop_length]
  simp [nd]
theorem e_call (c : Cxt G X cx) (rn : Run G X cl k) (tk : Takes X W) (hE : ∀ e, PE X e (tM G W RV (E e))) {p pos : Pos} (hg : glb cx.sc f = true) (hf : G.pg.fn f = some fn) (args : List Expr) (hn : noStar args = true) :
    PE X (.Call (.Name f p) args [] pos) (tM G W RV (bnd (argsOf cx E fn.io args) fun as => cCall cl f as)) := by
  obtain ⟨a, fd, Fg⟩ := rn.fns f fn hf
  have gl : Gl X f := glb_of c hg
  have mg : X.mg f = some (.ref a) := by rw [rn.wd.mg]; exact Fg.mg
  have kp : PySem.W.keepIn X.K (.ref a) = true := by rw [rn.wd.K]; exact Fg.kp
  have ha : PA X args (tM G W RAs (argsOf cx E fn.io args)) := e_args c hE fn.io args hn
  have core : ∀ {pins : List (Addr × Obj)} {s : Shared} {σ : L2.St} {H : Hp} {Q : VK} {us : List Value} {vs : List V}, Inv X pins σ H s → Vals vs us → spC G cl f vs H Q (fun cls d H' => W cls d σ H') → wpAny (model X.prog X.w) X.A (call (.ref a) us) (EP X pins σ Q) X.xe s := fun {pins s σ H Q us vs} I r h => by
    have l := spC_len Fg h
    have := runG rn.wd Fg rn.room rn.gd tk (us := us) (ws := []) (vs := vs) (zs := []) (all := []) (ks := []) I r .nil (kwOk_nil l Fg.nd) rfl (by rw [l, List.drop_length]; rfl) (by rw [List.append_nil]; exact h)
    exact this
  have imp : ∀ σ H Q, tM G W RV (bnd (argsOf cx E fn.io args) fun as => cCall cl f as) σ H Q → tM G W RAs (argsOf cx E fn.io args) σ H fun vs H1 => spC G cl f vs H1 Q (fun cls d H' => W cls d σ H') := fun σ H Q ⟨F, A, ρ, ok, h⟩ =>
    ⟨F, A, ρ, ok, h.bind (fun _ z => z) fun as ρ1 _ xs F1 H1 A1 B1 Z1 g ok1 r1 le1 z1 z2 z3 h1 => cCall_ok ok1 r1 le1 z1 z2 h1⟩
  refine ⟨fun pins s σ H Q I h => ?_⟩
  have h := imp σ H Q h
  refine wpAny_Call_Name_kw (ld_glob I gl mg ?_ Fg.nm)
  cases args with
  | nil =>
    refine PySem.W.callWith_K0 I.kIn kp ?_
    obtain ⟨F, A, ρ, ok, h⟩ := h
    have h' : Aft G W RAs F H A σ (some (.ok [] ρ)) (fun vs H1 => spC G cl f vs H1 Q (fun cls d H' => W cls d σ H')) := by
      cases hio : fn.io <;> (rw [hio] at h; exact h)
    exact core I .nil (h' [] F H A (fun _ => 0) ((Go.refl F H A).less fun a q => by have q' : A a + 0 ≠ 0 := q; omega) ok ⟨rfl, fun _ => rfl⟩ fun a => ok.one a)
  | cons e es =>
    obtain ⟨n1, n2⟩ := noStar_cons (X := X) hn
    refine PySem.W.callWith_K (h₀ := X.base) I.ok.mod.kin kp (thn (ha.run pos pins s σ H _ I h) fun us s1 ⟨vs, H1, I1, r, q⟩ => ⟨I1.kIn, ?_⟩) n1 (noStar_any n2)
    exact core I1 r q

theorem e_kws (c : Cxt G X cx) (hE : ∀ e, PE X e (tM G W RV (E e))) : ∀ (kws : List Keyword), PK X kws (tM G W RAs (argsOf cx E [] (kwVals kws)))
  | [] => ⟨fun pos pins s σ H Q I ⟨F, A, ρ, ok, h⟩ => (pk_nil (X := X)).run pos pins s σ H Q I (by
      have h : Aft G W RAs F H A σ (some (.ok [] ρ)) Q := h
      exact h [] F H A (fun _ => 0) ((Go.refl F H A).less fun a z => by have z' : A a + 0 ≠ 0 := z; omega) ok ⟨rfl, fun _ => rfl⟩ (fun a => ok.one a))⟩
  | ⟨nm, e, kp⟩ :: kws => by
    obtain ⟨m0, t, ht, he, hf⟩ := arg_one (G := G) (W := W) c hE [] e (kwVals kws)
    refine ⟨fun pos pins s σ H Q I ⟨F, A, ρ, ok, h⟩ => (pk_cons (nm := nm) (kpos := kp) ht (e_kws c hE kws)).run pos pins s σ H Q I ?_⟩
    have h : Aft G W RAs F H A σ (argsOf cx E [] (e :: kwVals kws) ρ) Q := h
    rw [he] at h
    refine hf ok (fun _ z => z) h fun a x F1 H1 A1 B1 Z1 ρ1 g1 ok1 r1 live le1 y1 y2 y3 h1 => ?_
    refine ⟨F1, A1, ρ1, ok1, h1.bind y1 fun as ρ2 _ xs F2 H2 A2 B2 Z2 g2 ok2 r2 le2 w1 w2 w3 h2 => ?_⟩
    have apt : ∀ a, B1 a ≠ 0 → A1 a = 0 := fun a q => by have := le1 a; omega
    refine h2 (x :: xs) F2 H2 A2 (fun a => B1 a + B2 a) ((Go.refl F2 H2 Z2).less fun a q => ?_) ok2 (r1 (g2.kp live apt) r2) fun a => ?_
    · have q' : A2 a + (B1 a + B2 a) ≠ 0 := q
      have h1 := w1 a
      have h2 := w2 a
      have h3 := w3 a
      have h4 := y2 a
      by_cases p : B1 a = 0
      · by_cases p2 : A2 a = 0
        · exact h2 (by omega)
        · exact h1 p2
      · exact h3 (h4 p)
    · have l1 := le1 a
      have l2 := le2 a
      show A2 a + (B1 a + B2 a) ≤ 1
      by_cases p : B1 a = 0
      · omega
      · have := g2.apart live apt a p
        omega
/-- a row picked from a row -/
theorem pick_rep {F H : Hp} {σ : L2.St} {ks : List PySem.Str} : ∀ {bs : List Arg} {zs : List V} {B : Ft} {p : PySem.Str} {a : Arg}, RepAs F H σ bs zs B → pick ks bs p = some a → ∃ z, pick ks zs p = some z := fun {bs zs B p a} r e => by
  unfold pick at e ⊢
  cases q : ks.idxOf? p with
  | none => rw [q] at e; cases e
  | some i =>
    rw [q] at e
    have lt := (List.getElem?_eq_some_iff.mp e).1
    have l := RepAs.len r
    exact ⟨zs[i]'(by omega), by simp⟩
/-- the values in a row, each taken once -/
theorem RepAs.at {F H : Hp} {σ : L2.St} : ∀ {bs : List Arg} {zs : List V} {B : Ft} {i : Nat} {a : Arg} {z : V}, RepAs F H σ bs zs B → bs[i]? = some a → zs[i]? = some z → ∃ C D, RepAs F H σ [a] [z] C ∧ (∀ x, B x = C x + D x) ∧ RepAs F H σ (bs.set i (.v (0, .none))) (zs.set i .non) D
  | [], _, _, _, _, _, _, h, _ => by simp at h
  | .v v :: bs, _, B, 0, a, z, ⟨x, r, B1, B2, e, h1, h2, h3⟩, ha, hz => by
    subst e
    simp at ha hz
    subst ha hz
    exact ⟨B1, B2, ⟨x, [], B1, fun _ => 0, rfl, h1, ⟨rfl, fun _ => rfl⟩, fun _ => rfl⟩, h3, .non, r, fun _ => 0, B2, rfl, ⟨rfl, fun _ => rfl⟩, h2, fun a => by show B2 a = 0 + B2 a; omega⟩
  | .lend i :: bs, _, B, 0, a, z, ⟨x, r, e, h1, h2⟩, ha, hz => by
    subst e
    simp at ha hz
    subst ha hz
    exact ⟨fun _ => 0, B, ⟨x, [], rfl, h1, rfl, fun _ => rfl⟩, fun a => by show B a = 0 + B a; omega, .non, r, fun _ => 0, B, rfl, ⟨rfl, fun _ => rfl⟩, h2, fun a => by show B a = 0 + B a; omega⟩
  | .v v :: bs, _, B, i + 1, a, z, ⟨x, r, B1, B2, e, h1, h2, h3⟩, ha, hz => by
    subst e
    obtain ⟨C, D, c1, c2, c3⟩ := RepAs.at h2 (by simpa using ha) (by simpa using hz)
    exact ⟨C, fun a => B1 a + D a, c1, fun a => by rw [h3 a, c2 a]; show _ = C a + (B1 a + D a); omega, x, _, B1, D, rfl, h1, c3, fun _ => rfl⟩
  | .lend j :: bs, _, B, i + 1, a, z, ⟨x, r, e, h1, h2⟩, ha, hz => by
    subst e
    obtain ⟨C, D, c1, c2, c3⟩ := RepAs.at h2 (by simpa using ha) (by simpa using hz)
    exact ⟨C, D, c1, c2, x, _, rfl, h1, c3⟩

theorem idx_at {ks : List PySem.Str} {p : PySem.Str} {i : Nat} (h : ks.idxOf? p = some i) : ks[i]? = some p := by
  obtain ⟨q, e, _⟩ := List.idxOf?_eq_some_iff.mp h
  rw [List.getElem?_eq_getElem q, e]
theorem picks_set {γ : Type} {ks : List PySem.Str} {bs : List γ} {p : PySem.Str} {i : Nat} {b : γ} (hi : ks.idxOf? p = some i) : ∀ {ps : List PySem.Str}, p ∉ ps → picks ks (bs.set i b) ps = picks ks bs ps
  | [], _ => rfl
  | q :: ps, h => by
    have ne : q ≠ p := fun e => h (e ▸ List.mem_cons_self ..)
    have same : pick ks (bs.set i b) q = pick ks bs q := by
      unfold pick
      cases e : ks.idxOf? q with
      | none => rfl
      | some j =>
        have : i ≠ j := fun z => by
          subst z
          have h1 := idx_at hi
          rw [idx_at e] at h1
          exact ne (Option.some.inj h1)
        show (bs.set i b)[j]? = bs[j]?
        rw [List.getElem?_set_ne this]
    unfold picks
    rw [same, picks_set hi fun z => h (List.mem_cons_of_mem _ z)]
theorem RepAs.one_app {F H : Hp} {σ : L2.St} {a : Arg} {z : V} {C : Ft} {as : List Arg} {xs : List V} {D : Ft} (h : RepAs F H σ [a] [z] C) (h' : RepAs F H σ as xs D) : RepAs F H σ (a :: as) (z :: xs) (fun x => C x + D x) := RepAs.app h' h
theorem picks_rep {F H : Hp} {σ : L2.St} {ks : List PySem.Str} : ∀ {ps : List PySem.Str} {bs cs : List Arg} {zs : List V} {B : Ft}, ps.Nodup → RepAs F H σ bs zs B → picks ks bs ps = some cs → ∃ all C, picks ks zs ps = some all ∧ RepAs F H σ cs all C ∧ ∀ x, C x ≤ B x
  | [], bs, cs, zs, B, _, r, h => by cases h; exact ⟨[], fun _ => 0, rfl, ⟨rfl, fun _ => rfl⟩, fun x => Nat.zero_le _⟩
  | p :: ps, bs, cs, zs, B, nd, r, h => by
    rw [List.nodup_cons] at nd
    unfold picks at h
    split at h
    · rename_i a l e1 e2
      cases h
      unfold pick at e1
      split at e1
      · rename_i i hi
        obtain ⟨z, ez⟩ : ∃ z, zs[i]? = some z := by
          have lt := (List.getElem?_eq_some_iff.mp e1).1
          have l := RepAs.len r
          exact ⟨zs[i]'(by omega), by simp⟩
        obtain ⟨C, D, c1, c2, c3⟩ := RepAs.at r e1 ez
        rw [← picks_set (b := .v (0, .none)) hi nd.1] at e2
        obtain ⟨all, C', d1, d2, d3⟩ := picks_rep nd.2 c3 e2
        rw [picks_set hi nd.1] at d1
        refine ⟨z :: all, _, ?_, RepAs.one_app c1 d2, fun x => by have := d3 x; rw [c2 x]; show C x + C' x ≤ _; omega⟩
        unfold picks
        have : pick ks zs p = some z := by
          unfold pick
          rw [hi]
          exact ez
        rw [this, d1]
      · cases e1
    · cases h
theorem kws_each {kws : List Keyword} {pos : Pos} (h : kws.all (fun k => match k with
      | ⟨some _, _, _⟩ => true
      | _ => false) = true) : (backToKw pos (keywordEach kws X.env)).all (·.1.isSome) = true ∧ (backToKw pos (keywordEach kws X.env)).filterMap (·.1) = kwNames kws ∧ (backToKw pos (keywordEach kws X.env)).any (·.1.isNone) = false := by
  induction kws with
  | nil => exact ⟨rfl, rfl, rfl⟩
  | cons q kws ih =>
    rw [List.all_cons] at h
    obtain ⟨h1, h2⟩ := and_t h
    obtain ⟨i1, i2, i3⟩ := ih h2
    obtain ⟨nm, e, kp⟩ := q
    cases nm with
    | none => cases h1
    | some x =>
      refine ⟨?_, ?_, ?_⟩
      · show (true && (backToKw pos (keywordEach kws X.env)).all (·.1.isSome)) = true
        rw [i1]; rfl
      · show x :: (backToKw pos (keywordEach kws X.env)).filterMap (·.1) = x :: kwNames kws
        rw [i2]
      · show (false || (backToKw pos (keywordEach kws X.env)).any (·.1.isNone)) = false
        rw [i3]; rfl
theorem kwNames_len : ∀ (kws : List Keyword), (kwNames kws).length = (kwVals kws).length
  | [] => rfl
  | ⟨some _, _, _⟩ :: r => by
    show (kwNames r).length + 1 = (kwVals r).length + 1
    rw [kwNames_len r]
  | ⟨none, _, _⟩ :: r => by
    show (kwNames r).length + 1 = (kwVals r).length + 1
    rw [kwNames_len r]
theorem argsOf_len : ∀ {io : List Bool} {es : List Expr} {ρ ρ' : Sts} {as : List Arg}, argsOf cx E io es ρ = some (.ok as ρ') → as.length = es.length
  | io, [], ρ, ρ', as, h => by
    cases io <;> (cases h; rfl)
  | io, e :: es, ρ, ρ', as, h => by
    have step : ∀ (m0 : M Arg), bnd m0 (fun a => bnd (argsOf cx E (io.drop 1) es) fun as => ret (a :: as)) ρ = some (.ok as ρ') → as.length = (e :: es).length := fun m0 h => by
      unfold bnd at h
      cases e1 : m0 ρ with
      | none => rw [e1] at h; cases h
      | some r1 =>
        rw [e1] at h
        cases r1 with
        | exc c d ρ1 => cases h
        | ok a ρ1 =>
          simp only at h
          cases e2 : argsOf cx E (io.drop 1) es ρ1 with
          | none => rw [e2] at h; cases h
          | some r2 =>
            rw [e2] at h
            cases r2 with
            | exc c d ρ2 => cases h
            | ok as2 ρ2 =>
              have := argsOf_len e2
              cases h
              rw [List.length_cons, List.length_cons, this]
    cases io with
    | nil => exact step _ h
    | cons b io => exact step _ h
theorem e_callK (c : Cxt G X cx) (rn : Run G X cl k) (tk : Takes X W) (hE : ∀ e, PE X e (tM G W RV (E e))) {p pos : Pos} (hg : glb cx.sc f = true) (hf : G.pg.fn f = some fn) (args : List Expr) (kws : List Keyword) (hn : noStar args = true)
    (hkw : kws.all (fun k => match k with
      | ⟨some _, _, _⟩ => true
      | _ => false) = true) (hko : kwOk fn.ps args.length (kwNames kws) = true) :
    PE X (.Call (.Name f p) args kws pos) (tM G W RV (bnd (argsOf cx E [] args) fun as => bnd (argsOf cx E [] (kwVals kws)) fun bs => match picks (kwNames kws) bs (fn.ps.drop as.length) with
      | some cs => cCall cl f (as ++ cs)
      | none => stuck)) := by
  obtain ⟨a, fd, Fg⟩ := rn.fns f fn hf
  have gl : Gl X f := glb_of c hg
  have mg : X.mg f = some (.ref a) := by rw [rn.wd.mg]; exact Fg.mg
  have kp : PySem.W.keepIn X.K (.ref a) = true := by rw [rn.wd.K]; exact Fg.kp
  have ha : PA X args (tM G W RAs (argsOf cx E [] args)) := e_args c hE [] args hn
  have hk := e_kws (G := G) (W := W) c hE kws
  obtain ⟨k1, k2, k3⟩ := kws_each (X := X) (pos := pos) hkw
  have kl := kwNames_len kws
  have imp : ∀ σ H Q, tM G W RV (bnd (argsOf cx E [] args) fun as => bnd (argsOf cx E [] (kwVals kws)) fun bs => match picks (kwNames kws) bs (fn.ps.drop as.length) with
      | some cs => cCall cl f (as ++ cs)
      | none => stuck) σ H Q → tM G W RAs (argsOf cx E [] args) σ H fun vs H1 => tM G W RAs (argsOf cx E [] (kwVals kws)) σ H1 fun zs H2 =>
        vs.length = args.length ∧ zs.length = (kwNames kws).length ∧ ∃ all, picks (kwNames kws) zs (fn.ps.drop vs.length) = some all ∧ spC G cl f (vs ++ all) H2 Q (fun cls d H' => W cls d σ H') := fun σ H Q ⟨F, A, ρ, ok, h⟩ => by
    refine ⟨F, A, ρ, ok, h.bind (fun _ z => z) fun as ρ1 ea xs F1 H1 A1 B1 Z1 g1 ok1 r1 le1 y1 y2 y3 h1 => ?_⟩
    refine ⟨F1, A1, ρ1, ok1, h1.bind y1 fun bs ρ2 eb zs F2 H2 A2 B2 Z2 g2 ok2 r2 le2 w1 w2 w3 h2 => ?_⟩
    have apt : ∀ a, B1 a ≠ 0 → A1 a = 0 := fun a q => by have := le1 a; omega
    have live : ∀ a, B1 a ≠ 0 → H1 a ≠ none := fun a q => RepAs.live r1 a q
    have r1' : RepAs F2 H2 σ as xs B1 := RepAs.mono (g2.kp live apt) r1
    have la := argsOf_len ea
    have lb := argsOf_len eb
    have lx := RepAs.len r1
    have lz := RepAs.len r2
    cases ep : picks (kwNames kws) bs (fn.ps.drop as.length) with
    | none => rw [ep] at h2; exact (h2 : False).elim
    | some cs =>
      rw [ep] at h2
      obtain ⟨all, C, e1, rc, lc⟩ := picks_rep (Fg.nd.sublist (List.drop_sublist _ _)) r2 ep
      refine ⟨by omega, by omega, all, by rw [← lx]; exact e1, ?_⟩
      refine cCall_ok ok2 (RepAs.app rc r1') (fun a => ?_) w1 (fun a q => ?_) h2
      · have l1 := le1 a
        have l2 := le2 a
        have l3 := lc a
        show A2 a + (B1 a + C a) ≤ 1
        by_cases q : B1 a = 0
        · omega
        · have := g2.apart live apt a q; omega
      · have q' : B1 a + C a ≠ 0 := q
        have l3 := lc a
        by_cases p : B1 a = 0
        · exact w2 a (by omega)
        · exact w3 a (y2 a p)
  refine ⟨fun pins s σ H Q I h => ?_⟩
  have h := imp σ H Q h
  refine wpAny_Call_Name_kw (ld_glob I gl mg ?_ Fg.nm)
  have fin : ∀ {s2 : Shared} {H2 : Hp} {us ws : List Value} {vs zs : List V}, Inv X pins σ H2 s2 → Vals vs us → Vals zs ws → (vs.length = args.length ∧ zs.length = (kwNames kws).length ∧ ∃ all, picks (kwNames kws) zs (fn.ps.drop vs.length) = some all ∧ spC G cl f (vs ++ all) H2 Q (fun cls d H' => W cls d σ H')) →
      wpAny (model X.prog X.w) X.A (call (.ref a) us ((kwNames kws).zip ws)) (EP X pins σ Q) X.xe s2 := fun {s2 H2 us ws vs zs} I2 r rz ⟨l1, l2, all, e, h⟩ => runG rn.wd Fg rn.room rn.gd tk I2 r rz (by rw [l1]; exact hko) l2.symm e h
  cases args with
  | nil =>
    refine PySem.W.callWith_KW0 (h₀ := X.base) I.ok.mod.kin kp k1 ?_ (by rw [k3]; rfl)
    obtain ⟨F, A, ρ, ok, h⟩ := h
    have h' := (show Aft G W RAs F H A σ (some (.ok [] ρ)) _ from h) [] F H A (fun _ => 0) ((Go.refl F H A).less fun a q => by have q' : A a + 0 ≠ 0 := q; omega) ok ⟨rfl, fun _ => rfl⟩ fun a => ok.one a
    refine thn (hk.run pos pins s σ H _ I h') fun ws s2 ⟨zs, H2, I2, rz, q2⟩ => ⟨I2.kIn, ?_⟩
    rw [k2]
    exact fin I2 .nil rz q2
  | cons e es =>
    obtain ⟨n1, n2⟩ := noStar_cons (X := X) hn
    refine PySem.W.callWith_KW (h₀ := X.base) I.ok.mod.kin kp k1 (thn (ha.run pos pins s σ H _ I h) fun us s1 ⟨vs, H1, I1, r, q⟩ => ?_) (by rw [k3, noStar_any hn]; rfl) n1
    refine thn (hk.run pos pins s1 σ H1 _ I1 q) fun ws s2 ⟨zs, H2, I2, rz, q2⟩ => ⟨I2.kIn, ?_⟩
    rw [k2]
    exact fin I2 r rz q2
end
end PD
end
section
/-! PDS: what is walked where it stands stays as it is. -/
namespace PD
open PySem
variable {α β : Type}
def Same (ρ ρ' : Sts) : Prop := (∀ (i : Nat) (d : PyData), ρ[i]? = some (Slot.ro d) → ρ'[i]? = some (Slot.ro d)) ∧ ρ'.length = ρ.length
theorem Same.refl (ρ : Sts) : Same ρ ρ := ⟨fun _ _ h => h, rfl⟩
theorem Same.trans {a b c : Sts} (h : Same a b) (h' : Same b c) : Same a c := ⟨fun i d e => h'.1 i d (h.1 i d e), h'.2.trans h.2⟩
theorem Same.set {ρ : Sts} {i : Nat} {s : Slot} (h : ∀ d, ρ[i]? ≠ some (.ro d)) : Same ρ (ρ.set i s) := ⟨fun j d e => by
  by_cases q : i = j
  · subst q; exact absurd e (h d)
  · rw [List.getElem?_set_ne q]; exact e, List.length_set⟩
def Stay (m : M α) : Prop := ∀ ρ a ρ', m ρ = some (.ok a ρ') → Same ρ ρ'
theorem Stay.ret (a : α) : Stay (ret a) := fun ρ b ρ' h => by cases h; exact .refl ρ
theorem Stay.stuck : Stay (stuck : M α) := fun ρ b ρ' h => by cases h
theorem Stay.bnd {m : M α} {k : α → M β} (h : Stay m) (h' : ∀ a, Stay (k a)) : Stay (bnd m k) := fun ρ b ρ' e => by
  unfold PD.bnd at e
  cases q : m ρ with
  | none => rw [q] at e; cases e
  | some r =>
    rw [q] at e
    cases r with
    | exc c d ρ1 => cases e
    | ok a ρ1 => exact (h ρ a ρ1 q).trans (h' a ρ1 b ρ' e)
theorem Stay.lif (o : Option α) : Stay (lif o) := fun ρ b ρ' h => by
  cases o with
  | none => cases h
  | some a => cases h; exact .refl ρ
theorem Stay.peek (o : Opd) : Stay (peek o) := fun ρ b ρ' h => by
  unfold PD.peek at h
  split at h <;> cases h
  exact .refl ρ
theorem Stay.isKind {p : PyData → Bool} (o : Opd) : Stay (isKind p o) := fun ρ b ρ' h => by
  unfold PD.isKind at h
  split at h
  · split at h <;> cases h
    exact .refl ρ
  · cases h
theorem val_not_ro {ρ : Sts} {i k : Nat} {d : PyData} (h : ρ[i]? = some (.val k d)) : ∀ e, ρ[i]? ≠ some (.ro e) := fun e q => by rw [h] at q; cases q
theorem Stay.kids (o : Opd) : Stay (kids o) := fun ρ b ρ' h => by
  unfold PD.kids at h
  split at h
  · cases h; exact .refl ρ
  · rename_i i
    split at h
    · rename_i k d e
      cases h
      split
      · exact .set (val_not_ro e)
      · exact .refl ρ
    · cases h; exact .refl ρ
    · cases h
theorem Stay.share (i : Nat) : Stay (share i) := fun ρ b ρ' h => by
  unfold PD.share at h
  split at h
  · rename_i k d e
    cases h
    exact .set (val_not_ro e)
  · cases h
theorem Stay.moveS (pr : List Nat) (i : Nat) : Stay (moveS pr i) := fun ρ b ρ' h => by
  unfold PD.moveS at h
  split at h
  · cases h
  · split at h
    · rename_i k d e
      cases h
      exact .set (val_not_ro e)
    · cases h
theorem Stay.store (pr : List Nat) (i : Nat) (v : Vl) : Stay (store pr i v) := fun ρ b ρ' h => by
  unfold PD.store at h
  split at h
  · cases h
  · split at h
    · cases h
    · cases h
    · rename_i s e2 e
      cases h
      exact .set fun d q => by
        rw [q] at e
        cases e
        exact e2 d rfl
theorem Stay.slotO (i : Nat) : Stay (slotO i) := fun ρ b ρ' h => by
  unfold PD.slotO at h
  split at h <;> cases h
  exact .refl ρ
theorem Stay.ite {c : Prop} [Decidable c] {a b : M α} (h : Stay a) (h' : Stay b) : Stay (if c then a else b) := by split <;> assumption
section
variable {P : Prog} {cl : Callee} {cx : Ctx} {E : Expr → M Vl}
theorem Stay.tmp {m : M Vl} (h : Stay m) : Stay (tmp m) := h.bnd fun _ => .ret _
theorem Stay.opnd (hE : ∀ e, Stay (E e)) (e : Expr) : Stay (opnd cx E e) := by
  unfold PD.opnd
  split
  · split
    · exact .slotO _
    · exact .tmp (hE _)
  · exact .tmp (hE _)
theorem Stay.tstK (v : Vl) : Stay (tstK v) := by
  unfold PD.tstK
  split
  · exact .ret _
  · exact .stuck
theorem Stay.tst {m : M Vl} (h : Stay m) : Stay (tst m) := h.bnd .tstK
theorem Stay.asIntK (v : Vl) : Stay (asIntK v) := by
  unfold PD.asIntK
  split
  · exact .ret _
  · exact .stuck
theorem Stay.asInt {m : M Vl} (h : Stay m) : Stay (asInt m) := h.bnd .asIntK
theorem Stay.cIf {c : M Bool} {a b : M α} (h : Stay c) (ha : Stay a) (hb : Stay b) : Stay (cIf c a b) := h.bnd fun t => .ite ha hb
theorem Stay.evAnd (hE : ∀ e, Stay (E e)) : ∀ es, Stay (evAnd E es)
  | [] => .stuck
  | [e] => hE e
  | e :: e2 :: r => (Stay.tst (hE e)).bnd fun b => .ite (Stay.evAnd hE (e2 :: r)) (.ret _)
theorem Stay.evOr (hE : ∀ e, Stay (E e)) : ∀ es, Stay (evOr E es)
  | [] => .stuck
  | [e] => hE e
  | e :: e2 :: r => (Stay.tst (hE e)).bnd fun b => .ite (.ret _) (Stay.evOr hE (e2 :: r))
theorem Stay.cNot {m : M Vl} (h : Stay m) : Stay (cNot m) := (Stay.tst h).bnd fun _ => .ret _
theorem Stay.cNeg {m : M Vl} (h : Stay m) : Stay (cNeg m) := (Stay.asInt h).bnd fun _ => .ret _
theorem Stay.cCmp {op : CmpOp} {a b : M Opd} (ha : Stay a) (hb : Stay b) : Stay (cCmp op a b) := ha.bnd fun _ => hb.bnd fun _ => (Stay.peek _).bnd fun _ => (Stay.peek _).bnd fun _ => (Stay.lif _).bnd fun _ => .ret _
theorem Stay.cChain {op op' : CmpOp} {a b c : M Opd} (ha : Stay a) (hb : Stay b) (hc : Stay c) : Stay (cChain op op' a b c) := ha.bnd fun _ => hb.bnd fun _ => (Stay.peek _).bnd fun _ => (Stay.peek _).bnd fun _ => (Stay.lif _).bnd fun _ =>
  .ite (hc.bnd fun _ => (Stay.peek _).bnd fun _ => (Stay.peek _).bnd fun _ => (Stay.lif _).bnd fun _ => .ret _) (.ret _)
theorem Stay.cAdd {a b : M Opd} (ha : Stay a) (hb : Stay b) : Stay (cAdd a b) := ha.bnd fun _ => hb.bnd fun _ => (Stay.kids _).bnd fun _ => (Stay.kids _).bnd fun _ => .lif _
theorem Stay.cNum {op : Operator} {a b : M Opd} (ha : Stay a) (hb : Stay b) : Stay (cNum op a b) := ha.bnd fun _ => hb.bnd fun _ => (Stay.kids _).bnd fun _ => (Stay.kids _).bnd fun _ => .lif _
theorem Stay.evs (hE : ∀ e, Stay (E e)) : ∀ es, Stay (evs E es)
  | [] => .ret _
  | e :: r => (hE e).bnd fun _ => (Stay.evs hE r).bnd fun _ => .ret _
theorem Stay.cList {m : M (List Vl)} (h : Stay m) : Stay (cList m) := h.bnd fun _ => .ite (.ret _) .stuck
theorem Stay.cTuple {m : M (List Vl)} (h : Stay m) : Stay (cTuple m) := h.bnd fun _ => .ite (.ret _) .stuck
theorem Stay.evPairs (hE : ∀ e, Stay (E e)) : ∀ ks vs, Stay (evPairs E ks vs)
  | [], [] => .ret _
  | some k :: ks, v :: vs => (hE k).bnd fun _ => (hE v).bnd fun _ => (Stay.evPairs hE ks vs).bnd fun _ => .ret _
  | none :: _, _ => .stuck
  | [], _ :: _ => .stuck
  | some _ :: _, [] => .stuck
theorem Stay.cDict {m : M (List (PyData × Vl))} (h : Stay m) : Stay (cDict m) := h.bnd fun _ => .ite (.ret _) .stuck
theorem Stay.itemV (o : Opd) (i : PyData) : Stay (itemV o i) := fun ρ b ρ' h => by
  unfold PD.itemV at h
  split at h
  · split at h <;> cases h
    exact .refl ρ
  · split at h
    · rename_i k d e
      split at h
      · cases h
        split
        · exact .set (val_not_ro e)
        · exact .refl ρ
      · cases h
    · split at h <;> cases h
      exact .refl ρ
    · cases h
theorem Stay.cItem {a b : M Opd} (ha : Stay a) (hb : Stay b) : Stay (cItem a b) := ha.bnd fun _ => hb.bnd fun _ => (Stay.peek _).bnd fun _ => .itemV _ _
theorem Stay.optI (hE : ∀ e, Stay (E e)) : ∀ o, Stay (optI E o)
  | none => .ret _
  | some e => (hE e).bnd fun _ => (Stay.asIntK _).bnd fun _ => .ret _
theorem Stay.cSlice {a : M Opd} {lo hi : M (Option Int)} (ha : Stay a) (hl : Stay lo) (hh : Stay hi) : Stay (cSlice a lo hi) := ha.bnd fun _ => hl.bnd fun _ => hh.bnd fun _ => (Stay.kids _).bnd fun _ => .lif _
theorem Stay.cLook {f : Str} {a : M Opd} (ha : Stay a) : Stay (cLook f a) := ha.bnd fun _ => (Stay.peek _).bnd fun _ => .lif _
theorem Stay.cLook2 {f : Str} {a b : M Opd} (ha : Stay a) (hb : Stay b) : Stay (cLook2 f a b) := ha.bnd fun _ => hb.bnd fun _ => (Stay.peek _).bnd fun _ => (Stay.peek _).bnd fun _ => .lif _
theorem Stay.cMake {f : Str} {a : M Opd} (ha : Stay a) : Stay (cMake f a) := ha.bnd fun _ => (Stay.kids _).bnd fun _ => .lif _
theorem Stay.cIsi {a : M Opd} {Ts : List Str} (ha : Stay a) : Stay (cIsi a Ts) := ha.bnd fun _ => (Stay.peek _).bnd fun _ => (Stay.lif _).bnd fun _ => .ret _
theorem Stay.mAppend (i : Nat) (v : Vl) : Stay (mAppend i v) := fun ρ b ρ' h => by
  unfold PD.mAppend at h
  split at h
  · rename_i k xs e
    split at h <;> cases h
    exact .set (val_not_ro e)
  · cases h
theorem Stay.mPop (i : Nat) (j : PyData) : Stay (mPop i j) := fun ρ b ρ' h => by
  unfold PD.mPop at h
  split at h
  · rename_i k xs j' e
    split at h
    · split at h
      · split at h <;> cases h
        exact .set (val_not_ro e)
      · cases h
    · cases h
  · cases h
theorem Stay.mSet (i : Nat) (j : PyData) (v : Vl) : Stay (mSet i j v) := fun ρ b ρ' h => by
  unfold PD.mSet at h
  split at h
  · rename_i k xs e
    split at h
    · split at h <;> cases h
      exact .set (val_not_ro e)
    · cases h
  · rename_i k xs e
    split at h <;> cases h
    exact .set (val_not_ro e)
  · cases h
theorem Stay.cMeth1 {f : PyData → Option Vl} {a : M Opd} (ha : Stay a) : Stay (cMeth1 f a) := ha.bnd fun _ => (Stay.peek _).bnd fun _ => .lif _
theorem Stay.cMeth2 {f : PyData → PyData → Option Vl} {a b : M Opd} (ha : Stay a) (hb : Stay b) : Stay (cMeth2 f a b) := ha.bnd fun _ => (Stay.isKind _).bnd fun _ => hb.bnd fun _ => (Stay.peek _).bnd fun _ => (Stay.peek _).bnd fun _ => .lif _
theorem Stay.cGet1 {a b : M Opd} (ha : Stay a) (hb : Stay b) : Stay (cGet1 a b) := ha.bnd fun _ => (Stay.isKind _).bnd fun _ => hb.bnd fun _ => (Stay.kids _).bnd fun _ => (Stay.peek _).bnd fun _ => .lif _
theorem Stay.cGet2 {a b : M Opd} {c : M Vl} (ha : Stay a) (hb : Stay b) (hc : Stay c) : Stay (cGet2 a b c) := ha.bnd fun _ => (Stay.isKind _).bnd fun _ => hb.bnd fun _ => hc.bnd fun _ => (Stay.kids _).bnd fun _ => (Stay.peek _).bnd fun _ => .lif _
mutual
theorem Stay.asgn (st : Str → Option Nat) (pr : List Nat) : ∀ (t : Expr) (v : Vl), Stay (asgn st pr t v) := fun t v => by
  cases t with
  | Name x p =>
    show Stay (match st x with
      | some i => PD.store pr i v
      | none => (PD.stuck : M Unit))
    split
    · exact .store _ _ _
    · exact .stuck
  | Tuple ts k p =>
    show Stay (match v.2 with
      | .tuple xs => if noStar ts = true then PD.asgns st pr ts (v.1 - 1) xs else (PD.stuck : M Unit)
      | _ => (PD.stuck : M Unit))
    split
    · exact .ite (Stay.asgns st pr ts _ _) .stuck
    · exact .stuck
  | _ => exact .stuck
theorem Stay.asgns (st : Str → Option Nat) (pr : List Nat) : ∀ (ts : List Expr) (k : Nat) (xs : List PyData), Stay (asgns st pr ts k xs)
  | [], _, [] => .ret _
  | t :: ts, k, x :: xs => (Stay.asgn st pr t (k, x)).bnd fun _ => Stay.asgns st pr ts k xs
  | [], _, _ :: _ => .stuck
  | _ :: _, _, [] => .stuck
end
/-! calls -/
def lends : List Arg → List Nat
  | [] => []
  | .v _ :: r => lends r
  | .lend i :: r => i :: lends r
theorem toSlots_same : ∀ {as : List Arg} {ρ ρ' : Sts} {ss : List Slot}, toSlots ρ as = some (ss, ρ') → Same ρ ρ' ∧ ∀ i d, ρ[i]? = some (.ro d) → i ∉ lends as
  | [], ρ, ρ', ss, h => by cases h; exact ⟨.refl ρ, fun _ _ _ z => nomatch z⟩
  | .v x :: as, ρ, ρ', ss, h => by
    unfold toSlots at h
    split at h
    · rename_i l ρ1 e
      cases h
      have q := toSlots_same (as := as) e
      exact q
    · cases h
  | .lend i :: as, ρ, ρ', ss, h => by
    unfold toSlots at h
    split at h
    · rename_i k d e0
      split at h
      · rename_i l ρ1 e
        cases h
        obtain ⟨h1, h2⟩ := toSlots_same e
        have s0 : Same ρ (ρ.set i .dead) := .set (val_not_ro e0)
        refine ⟨s0.trans h1, fun j d' hj hm => ?_⟩
        rcases List.mem_cons.mp hm with q | q
        · subst q; exact val_not_ro e0 d' hj
        · exact h2 j d' (s0.1 j d' hj) q
      · cases h
    · cases h
theorem backAll_same : ∀ {as : List Arg} {ρ : Sts} {back : List Slot}, (∀ i, i ∉ lends as → (backAll ρ as back)[i]? = ρ[i]?) ∧ (backAll ρ as back).length = ρ.length
  | [], ρ, back => by cases back <;> exact ⟨fun _ _ => rfl, rfl⟩
  | .v x :: as, ρ, [] => ⟨fun _ _ => rfl, rfl⟩
  | .v x :: as, ρ, b :: bs => backAll_same (as := as) (ρ := ρ) (back := bs)
  | .lend i :: as, ρ, [] => ⟨fun _ _ => rfl, rfl⟩
  | .lend i :: as, ρ, b :: bs => by
    obtain ⟨h1, h2⟩ := backAll_same (as := as) (ρ := ρ.set i b) (back := bs)
    refine ⟨fun j hj => ?_, h2.trans List.length_set⟩
    have hj' : j ≠ i ∧ j ∉ lends as := by simpa [lends, not_or] using hj
    exact (h1 j hj'.2).trans (List.getElem?_set_ne (Ne.symm hj'.1))
theorem Stay.cCall (f : Str) (as : List Arg) : Stay (cCall cl f as) := fun ρ b ρ' h => by
  unfold PD.cCall at h
  split at h
  · cases h
  · rename_i ss ρ1 e
    split at h
    · cases h
    · cases h
    · rename_i v back e2
      cases h
      obtain ⟨h1, h2⟩ := toSlots_same e
      obtain ⟨b1, b2⟩ := backAll_same (as := as) (ρ := ρ1) (back := back)
      exact ⟨fun i d hi => (b1 i (h2 i d hi)).trans (h1.1 i d hi), b2.trans h1.2⟩
theorem Stay.argsOf (hE : ∀ e, Stay (E e)) : ∀ io es, Stay (argsOf cx E io es)
  | io, [] => by cases io <;> exact .ret _
  | io, e :: es => by
    unfold PD.argsOf
    refine Stay.bnd ?_ fun a => (Stay.argsOf hE _ es).bnd fun _ => .ret _
    split
    · split
      · exact (Stay.slotO _).bnd fun _ => .ret _
      · exact (hE _).bnd fun _ => .ret _
    · exact (hE _).bnd fun _ => .ret _
end
/-! walks -/
def WStay (w : M Walk) : Prop := ∀ ρ W ρ', w ρ = some (.ok W ρ') → Same ρ ρ' ∧ ∀ i, i ∈ W.ro → ∀ d, ρ[i]? ≠ some (.ro d)
theorem not_ro_back {ρ ρ' : Sts} (s : Same ρ ρ') {i : Nat} (h : ∀ d, ρ'[i]? ≠ some (.ro d)) : ∀ d, ρ[i]? ≠ some (.ro d) := fun d e => h d (s.1 i d e)
theorem froz_same {b : Bool} {o : Opd} {ρ ρ' : Sts} {d : PyData} {l : List Nat} (h : froz b o ρ = some (.ok (d, l) ρ')) : Same ρ ρ' ∧ ∀ i, i ∈ l → ∀ d, ρ[i]? ≠ some (.ro d) := by
  unfold froz at h
  split at h
  · cases h; exact ⟨.refl ρ, fun _ z => nomatch z⟩
  · rename_i i
    split at h
    · cases h; exact ⟨.refl ρ, fun _ z => nomatch z⟩
    · rename_i k d' e
      split at h
      · cases h
        refine ⟨.set (val_not_ro e), fun j hj => ?_⟩
        have : j = i := by simpa using hj
        subst this
        exact val_not_ro e
      · cases h
        exact ⟨.set (val_not_ro e), fun _ z => nomatch z⟩
    · cases h; exact ⟨.refl ρ, fun _ z => nomatch z⟩
    · cases h
theorem bnd_ok {m : M α} {k : α → M β} {ρ ρ' : Sts} {b : β} (h : bnd m k ρ = some (.ok b ρ')) : ∃ a ρ1, m ρ = some (.ok a ρ1) ∧ k a ρ1 = some (.ok b ρ') := by
  unfold bnd at h
  cases e : m ρ with
  | none => rw [e] at h; cases h
  | some r =>
    rw [e] at h
    cases r with
    | exc c d ρ1 => cases h
    | ok a ρ1 => exact ⟨a, ρ1, rfl, h⟩
theorem lif_ok {o : Option α} {ρ ρ' : Sts} {a : α} (h : lif o ρ = some (.ok a ρ')) : o = some a ∧ ρ' = ρ := by
  cases o with
  | none => cases h
  | some x => cases h; exact ⟨rfl, rfl⟩
theorem WStay.walkO {b : Bool} {a : M Opd} (ha : Stay a) : WStay (walkO b a) := fun ρ W ρ' h => by
  obtain ⟨x, ρ1, h1, h⟩ := bnd_ok h
  obtain ⟨⟨d, l⟩, ρ2, h2, h⟩ := bnd_ok h
  have h : bnd (lif (itemsD d)) (fun xs => ret (Walk.mk xs l (isDictD d))) ρ2 = some (.ok W ρ') := h
  obtain ⟨xs, ρ3, h3, h6⟩ := bnd_ok h
  obtain ⟨_, e6⟩ := lif_ok h3
  subst e6
  cases h6
  obtain ⟨s1, n1⟩ := froz_same h2
  exact ⟨(ha _ _ _ h1).trans s1, fun i hi => not_ro_back (ha _ _ _ h1) (n1 i hi)⟩
theorem WStay.walkR {lo hi : M Int} (hl : Stay lo) (hh : Stay hi) : WStay (walkR lo hi) := fun ρ W ρ' h => by
  obtain ⟨i, ρ1, h1, h⟩ := bnd_ok h
  obtain ⟨j, ρ2, h2, h⟩ := bnd_ok h
  split at h
  · cases h
    exact ⟨(hl _ _ _ h1).trans (hh _ _ _ h2), fun _ z => nomatch z⟩
  · cases h
theorem WStay.walkZ {b c : Bool} {a a' : M Opd} (ha : Stay a) (ha' : Stay a') : WStay (walkZ b c a a') := fun ρ W ρ' h => by
  obtain ⟨x, ρ1, h1, h⟩ := bnd_ok h
  obtain ⟨y, ρ2, h2, h⟩ := bnd_ok h
  obtain ⟨⟨d, l⟩, ρ3, h3, h⟩ := bnd_ok h
  obtain ⟨⟨e, l'⟩, ρ4, h4, h⟩ := bnd_ok h
  have h : bnd (lif (zipD d e)) (fun xs => ret (Walk.mk xs (l ++ l') false)) ρ4 = some (.ok W ρ') := h
  obtain ⟨xs, ρ5, h5, h6⟩ := bnd_ok h
  obtain ⟨_, e6⟩ := lif_ok h5
  subst e6
  cases h6
  obtain ⟨s3, n3⟩ := froz_same h3
  obtain ⟨s4, n4⟩ := froz_same h4
  have s12 := (ha _ _ _ h1).trans (ha' _ _ _ h2)
  refine ⟨(s12.trans s3).trans s4, fun i hi => ?_⟩
  rcases List.mem_append.mp hi with q | q
  · exact not_ro_back s12 (n3 i q)
  · exact not_ro_back (s12.trans s3) (n4 i q)
theorem WStay.walkE {b : Bool} {a : M Opd} (ha : Stay a) : WStay (walkE b a) := fun ρ W ρ' h => by
  obtain ⟨x, ρ1, h1, h⟩ := bnd_ok h
  obtain ⟨⟨d, l⟩, ρ2, h2, h⟩ := bnd_ok h
  obtain ⟨s1, n1⟩ := froz_same h2
  simp only at h
  split at h
  · cases h
    exact ⟨(ha _ _ _ h1).trans s1, fun i hi => not_ro_back (ha _ _ _ h1) (n1 i hi)⟩
  · cases h
theorem WStay.walk {P : Prog} {cx : Ctx} {E : Expr → M Vl} (hE : ∀ e, Stay (E e)) (tg e : Expr) : WStay (walk P cx E tg e) := by
  unfold PD.walk
  split
  · split
    · exact .walkR (.ret _) (.asInt (hE _))
    · split
      · exact .walkE (.opnd hE _)
      · exact .walkO (.opnd hE _)
  · split
    · exact .walkR (.asInt (hE _)) (.asInt (hE _))
    · split
      · exact .walkZ (.opnd hE _) (.opnd hE _)
      · exact .walkO (.opnd hE _)
  · exact .walkO (.opnd hE _)
theorem unroS_same : ∀ {l : List Nat} {ρ ρ' : Sts}, unroS ρ l = some ρ' → (∀ i, i ∉ l → ρ'[i]? = ρ[i]?) ∧ ρ'.length = ρ.length
  | [], ρ, ρ', h => by cases h; exact ⟨fun _ _ => rfl, rfl⟩
  | i :: l, ρ, ρ', h => by
    unfold unroS at h
    split at h
    · obtain ⟨h1, h2⟩ := unroS_same h
      refine ⟨fun j hj => ?_, h2.trans List.length_set⟩
      have hj' : j ≠ i ∧ j ∉ l := by simpa [not_or] using hj
      exact (h1 j hj'.2).trans (List.getElem?_set_ne (Ne.symm hj'.1))
    · cases h
theorem unwalk_same {W : Walk} {ρ ρ' : Sts} {u : Unit} (h : unwalk W ρ = some (.ok u ρ')) : (∀ i, i ∉ W.ro → ρ'[i]? = ρ[i]?) ∧ ρ'.length = ρ.length := by
  unfold unwalk at h
  split at h
  · rename_i e
    cases h
    exact unroS_same e
  · cases h
theorem Stay.walked {w : M Walk} {k : Walk → M α} {k2 : Walk → α → M β} (hw : WStay w) (hk : ∀ W, Stay (k W)) (h2 : ∀ W a, Stay (k2 W a)) : Stay (PD.bnd w fun W => PD.bnd (k W) fun a => PD.bnd (unwalk W) fun _ => k2 W a) := fun ρ b ρ' h => by
  obtain ⟨W, ρ1, e1, h⟩ := bnd_ok h
  obtain ⟨a, ρ2, e2, h⟩ := bnd_ok h
  obtain ⟨u, ρ3, e3, h⟩ := bnd_ok h
  obtain ⟨s1, n1⟩ := hw _ _ _ e1
  have s2 := hk W _ _ _ e2
  obtain ⟨u1, u2⟩ := unwalk_same e3
  have s3 := h2 W a _ _ _ h
  refine ⟨fun i d hi => s3.1 i d ?_, by rw [s3.2, u2, s2.2, s1.2]⟩
  have ni : i ∉ W.ro := fun z => n1 i z d hi
  rw [u1 i ni]
  exact s2.1 i d (s1.1 i d hi)
/-! blocks -/
theorem killS_get {ρ : Sts} : ∀ {l : List Nat}, (∀ i, i ∉ l → (killS ρ l)[i]? = ρ[i]?) ∧ (killS ρ l).length = ρ.length ∧ ∀ i, i ∈ l → ∀ d, (killS ρ l)[i]? ≠ some (.ro d)
  | [] => ⟨fun _ _ => rfl, rfl, fun _ z => nomatch z⟩
  | i :: l => by
    obtain ⟨h1, h2, h3⟩ := killS_get (ρ := ρ) (l := l)
    refine ⟨fun j hj => ?_, List.length_set.trans h2, fun j hj d e => ?_⟩
    · have hj' : j ≠ i ∧ j ∉ l := by simpa [not_or] using hj
      exact (List.getElem?_set_ne (Ne.symm hj'.1)).trans (h1 j hj'.2)
    · have e : ((killS ρ l).set i .dead)[j]? = some (.ro d) := e
      by_cases q : i = j
      · subst q
        by_cases lt : i < (killS ρ l).length
        · rw [List.getElem?_set_self lt] at e; cases e
        · rw [List.getElem?_eq_none (by simpa using lt)] at e; cases e
      · rw [List.getElem?_set_ne q] at e
        rcases List.mem_cons.mp hj with z | z
        · exact q z.symm
        · exact h3 j z d e
theorem plainS_not {ρ : Sts} : ∀ {l : List Nat}, plainS ρ l = true → ∀ i, i ∈ l → ∀ d, ρ[i]? ≠ some (.ro d)
  | i :: l, h, j, hj, d, e => by
    unfold plainS at h
    obtain ⟨h1, h2⟩ := Bool.and_eq_true_iff.mp h
    rcases List.mem_cons.mp hj with q | q
    · subst q
      rw [e] at h1
      cases h1
    · exact plainS_not h2 j q d e
theorem backS_get {old ρ : Sts} : ∀ {l : List Nat}, (∀ i, i ∉ l → (backS old ρ l)[i]? = ρ[i]?) ∧ (backS old ρ l).length = ρ.length
  | [] => ⟨fun _ _ => rfl, rfl⟩
  | i :: l => by
    obtain ⟨h1, h2⟩ := backS_get (old := old) (ρ := ρ) (l := l)
    unfold backS
    split
    · refine ⟨fun j hj => ?_, List.length_set.trans h2⟩
      have hj' : j ≠ i ∧ j ∉ l := by simpa [not_or] using hj
      exact (List.getElem?_set_ne (Ne.symm hj'.1)).trans (h1 j hj'.2)
    · exact ⟨fun j hj => h1 j (by simp [not_or] at hj; exact hj.2), h2⟩
theorem compM_same {own : List Nat} {body : PyData → M (List β)} (hb : ∀ x, Stay (body x)) : ∀ {xs : List PyData} {ρ ρ' : Sts} {vs : List β}, compM own body xs ρ = some (.ok vs ρ') → (∀ i, i ∈ own → ∀ d, ρ[i]? ≠ some (.ro d)) → Same ρ ρ'
  | [], ρ, ρ', vs, h, _ => by cases h; exact .refl ρ
  | x :: xs, ρ, ρ', vs, h, no => by
    obtain ⟨v, ρ1, e1, h⟩ := bnd_ok h
    obtain ⟨vs', ρ2, e2, h⟩ := bnd_ok h
    cases h
    split at e1
    · rename_i w ρ3 e3
      cases e1
      have s := hb x _ _ _ e3
      obtain ⟨k1, k2, k3⟩ := killS_get (ρ := ρ3) (l := own)
      have s1 : Same ρ (killS ρ3 own) := ⟨fun i d hi => by rw [k1 i fun z => no i z d hi]; exact s.1 i d hi, k2.trans s.2⟩
      exact s1.trans (compM_same hb e2 k3)
    · cases e1
theorem Stay.inBlock {own : List Nat} {body : PyData → M (List β)} {xs : List PyData} (hb : ∀ x, Stay (body x)) : Stay (inBlock own (compM own body xs)) := fun ρ a ρ' h => by
  unfold PD.inBlock at h
  split at h
  · rename_i hp
    split at h
    · rename_i a' ρ1 e
      cases h
      obtain ⟨k1, k2, k3⟩ := killS_get (ρ := ρ) (l := own)
      have s := compM_same hb e k3
      obtain ⟨b1, b2⟩ := backS_get (old := ρ) (ρ := ρ1) (l := own)
      have no := plainS_not hp
      exact ⟨fun i d hi => by
        have ni : i ∉ own := fun z => no i z d hi
        rw [b1 i ni]
        exact s.1 i d (by rw [k1 i ni]; exact hi), by rw [b2, s.2, k2]⟩
    · cases h
  · cases h
theorem Stay.cond {E : Expr → M Vl} (hE : ∀ e, Stay (E e)) : ∀ es, Stay (cond E es)
  | [] => .ret _
  | [c] => .tst (hE c)
  | _ :: _ :: _ => .stuck
theorem Stay.cLc {w : M Walk} {own : List Nat} {tg : PyData → M Unit} {c : M Bool} {elt : M Vl} (hw : WStay w) (ht : ∀ x, Stay (tg x)) (hc : Stay c) (he : Stay elt) : Stay (cLc w own tg c elt) :=
  .walked hw (fun _ => .inBlock fun x => (ht x).bnd fun _ => hc.bnd fun _ => .ite (he.bnd fun _ => .ret _) (.ret _)) fun _ _ => .ite (.ret _) .stuck
theorem Stay.cDc {w : M Walk} {own : List Nat} {tg : PyData → M Unit} {c : M Bool} {ke ve : M Vl} (hw : WStay w) (ht : ∀ x, Stay (tg x)) (hc : Stay c) (hk : Stay ke) (hv : Stay ve) : Stay (cDc w own tg c ke ve) :=
  .walked hw (fun _ => .inBlock fun x => (ht x).bnd fun _ => hc.bnd fun _ => .ite (hk.bnd fun _ => hv.bnd fun _ => .ret _) (.ret _)) fun _ _ => .ite (.ret _) .stuck
/-! the evaluator -/
theorem Stay.cName {P : Prog} {cx : Ctx} (x : Str) (pos : Pos) : Stay (cName P cx x pos) := by
  unfold PD.cName
  split
  · exact .ite (.moveS _ _) (.share _)
  · exact .ite (.lif _) .stuck
section
variable {P : Prog} {cl : Callee} {E : Expr → M Vl}
theorem Stay.blt1 {cx : Ctx} (hE : ∀ e, Stay (E e)) (f : Str) (a : Expr) : Stay (blt1 P cx E f a) :=
  .ite (.ite (.cLook (.opnd hE a)) (.ite (.cMake (.opnd hE a)) .stuck)) .stuck
theorem Stay.blt2 {cx : Ctx} (hE : ∀ e, Stay (E e)) (f : Str) (a b : Expr) : Stay (blt2 P cx E f a b) := by
  refine .ite (.ite ?_ (.ite (.cLook2 (.opnd hE a) (.opnd hE b)) .stuck)) .stuck
  split
  · split
    · exact .ite (.cIsi (.opnd hE a)) .stuck
    · exact .stuck
  · split
    · exact .ite (.cIsi (.opnd hE a)) .stuck
    · exact .stuck
  · exact .stuck
theorem Stay.meth1 {cx : Ctx} (hE : ∀ e, Stay (E e)) (o : Expr) (m : Str) (a : Expr) : Stay (meth1 cx E o m a) := by
  refine .ite ?_ (.ite ?_ (.ite (.cGet1 (.opnd hE o) (.opnd hE a)) (.ite (.cMeth2 (.opnd hE o) (.opnd hE a)) .stuck)))
  · split
    · split
      · exact (Stay.isKind _).bnd fun _ => (hE a).bnd fun _ => .mAppend _ _
      · exact .stuck
    · exact .stuck
  · split
    · split
      · exact (Stay.isKind _).bnd fun _ => (hE a).bnd fun _ => .mPop _ _
      · exact .stuck
    · exact .stuck
theorem Stay.ownCall {cx : Ctx} (hE : ∀ e, Stay (E e)) (f : Str) (fn : Fn) (args : List Expr) (kws : List Keyword) : Stay (ownCall cl cx E f fn args kws) := by
  unfold PD.ownCall
  split
  · exact .ite ((Stay.argsOf hE _ _).bnd fun _ => .cCall _ _) .stuck
  · refine .ite ((Stay.argsOf hE _ _).bnd fun as => (Stay.argsOf hE _ _).bnd fun bs => ?_) .stuck
    split
    · exact .cCall _ _
    · exact .stuck
theorem Stay.ev : ∀ (n : Nat) (cx : Ctx) (e : Expr), Stay (ev P cl n cx e)
  | 0, _, _ => .stuck
  | n + 1, cx, e => by
    have hE : ∀ cx e, Stay (PD.ev P cl n cx e) := Stay.ev n
    unfold PD.ev
    rw [asgnX_eq]
    split
    · exact .lif _
    · exact .cName _ _
    · exact .evAnd (hE cx) _
    · exact .evOr (hE cx) _
    · exact .cNot (hE cx _)
    · exact .cNeg (hE cx _)
    · exact .ite (.cCmp (.opnd (hE cx) _) (.opnd (hE cx) _)) .stuck
    · exact .ite (.cChain (.opnd (hE cx) _) (.opnd (hE cx) _) (.opnd (hE cx) _)) .stuck
    · exact .ite (.cAdd (.opnd (hE cx) _) (.opnd (hE cx) _)) (.cNum (.opnd (hE cx) _) (.opnd (hE cx) _))
    · exact .cIf (.tst (hE cx _)) (hE cx _) (hE cx _)
    · exact .ite (.cList (.evs (hE cx) _)) .stuck
    · exact .ite (.cTuple (.evs (hE cx) _)) .stuck
    · exact .ret _
    · exact .ite (.cDict (.evPairs (hE cx) _ _)) .stuck
    · exact .cSlice (.opnd (hE cx) _) (.optI (hE cx) _) (.optI (hE cx) _)
    · exact .stuck
    · exact .cItem (.opnd (hE cx) _) (.opnd (hE cx) _)
    · exact .ite (.cLc (.walk (hE cx) _ _) (fun _ => .asgn _ _ _ _) (.cond (hE _) _) (hE _ _)) .stuck
    · exact .ite (.cDc (.walk (hE cx) _ _) (fun _ => .asgn _ _ _ _) (.cond (hE _) _) (hE _ _) (hE _ _)) .stuck
    · split
      · exact .ownCall (hE cx) _ _ _ _
      · split
        · exact .ite (.blt1 (hE cx) _ _) .stuck
        · exact .ite (.blt2 (hE cx) _ _ _) .stuck
        · exact .stuck
    · refine .ite ?_ .stuck
      split
      · exact .ite (.cMeth1 (.opnd (hE cx) _)) .stuck
      · exact .meth1 (hE cx) _ _ _
      · exact .ite (.cGet2 (.opnd (hE cx) _) (.opnd (hE cx) _) (hE cx _)) .stuck
      · exact .stuck
    · exact .stuck
end
/-! statements -/
theorem Stay.blk {S : Stmt → M Flw} (hS : ∀ s, Stay (S s)) : ∀ ss, Stay (blk S ss)
  | [] => .ret _
  | s :: r => (hS s).bnd fun f => by
    cases f with
    | nx => exact Stay.blk hS r
    | _ => exact .ret _
theorem Stay.forM {tg : PyData → M Unit} {body : M Flw} (ht : ∀ x, Stay (tg x)) (hb : Stay body) : ∀ xs, Stay (forM tg body xs)
  | [] => .ret _
  | x :: r => (ht x).bnd fun _ => hb.bnd fun f => by
    cases f with
    | nx => exact Stay.forM ht hb r
    | ct => exact Stay.forM ht hb r
    | _ => exact .ret _
theorem Stay.whileM {c : M Bool} {b : M Flw} (hc : Stay c) (hb : Stay b) : ∀ n, Stay (whileM c b n)
  | 0 => .stuck
  | n + 1 => hc.bnd fun t => .ite (hb.bnd fun f => by
    cases f with
    | nx => exact Stay.whileM hc hb n
    | ct => exact Stay.whileM hc hb n
    | _ => exact .ret _) (.ret _)
theorem Stay.noX {lk : Bool} {m : M α} (h : Stay m) : Stay (noX lk m) := fun ρ a ρ' e => by
  unfold PD.noX at e
  split at e
  · split at e <;> cases e
  · exact h ρ a ρ' e
theorem Stay.cFor {w : M Walk} {tg : PyData → M Unit} {body : M Flw} (hw : WStay w) (ht : ∀ x, Stay (tg x)) (hb : Stay body) : Stay (cFor w tg body) :=
  .walked hw (fun _ => .noX (.forM ht hb _)) fun _ _ => .ret _
theorem Stay.stores (st : Str → Option Nat) (pr : List Nat) : ∀ ts vs, Stay (stores st pr ts vs)
  | [], [] => .ret _
  | t :: ts, v :: vs => (Stay.asgn st pr t v).bnd fun _ => Stay.stores st pr ts vs
  | [], _ :: _ => .stuck
  | _ :: _, [] => .stuck
theorem Stay.cAug {pr : List Nat} {i : Nat} {op : Operator} {m : M Vl} (h : Stay m) : Stay (cAug pr i op m) := (Stay.peek _).bnd fun _ => h.bnd fun _ => (Stay.lif _).bnd fun _ => .store _ _ _
theorem Stay.cAugS {i : Nat} {op : Operator} {k : M Opd} {m : M Vl} (hk : Stay k) (h : Stay m) : Stay (cAugS i op k m) := hk.bnd fun _ => (Stay.peek _).bnd fun _ => (Stay.peek _).bnd fun _ => (Stay.lif _).bnd fun _ => h.bnd fun _ => (Stay.lif _).bnd fun _ => (Stay.peek _).bnd fun _ => .mSet _ _ _
theorem Stay.nxt {m : M Unit} (h : Stay m) : Stay (nxt m) := h.bnd fun _ => .ret _
theorem Stay.evS {P : Prog} {cl : Callee} : ∀ (n : Nat) (cx : Ctx) (s : Stmt), Stay (evS P cl n cx s)
  | 0, _, _ => .stuck
  | n + 1, cx, s => by
    have hE : ∀ e, Stay (PD.ev P cl n cx e) := Stay.ev n cx
    have hS : ∀ s, Stay (PD.evS P cl n cx s) := Stay.evS n cx
    unfold PD.evS
    rw [asgnX_eq]
    split
    · exact .ret _
    · exact .ret _
    · exact .ret _
    · exact .ret _
    · exact (hE _).bnd fun _ => .ret _
    · exact .ret _
    · exact (hE _).bnd fun _ => .ret _
    · exact .ite (.nxt ((hE _).bnd fun _ => .asgn _ _ _ _)) .stuck
    · split
      · exact .nxt ((Stay.evs hE _).bnd fun _ => .stores _ _ _ _)
      · exact .nxt ((hE _).bnd fun _ => .asgn _ _ _ _)
      · exact .stuck
    · exact .nxt ((hE _).bnd fun _ => .asgn _ _ _ _)
    · split
      · exact .ite .stuck (.nxt ((hE _).bnd fun _ => (Stay.slotO _).bnd fun _ => (Stay.opnd hE _).bnd fun _ => (Stay.peek _).bnd fun _ => .mSet _ _ _))
      · exact .stuck
    · split
      · exact .nxt (.cAug (hE _))
      · exact .stuck
    · split
      · exact .ite .stuck (.nxt ((Stay.slotO _).bnd fun _ => .cAugS (.opnd hE _) (hE _)))
      · exact .stuck
    · exact .cIf (.tst (hE _)) (.blk hS _) (.blk hS _)
    · exact .whileM (.tst (hE _)) (.blk hS _) _
    · exact .ite (.cFor (.walk hE _ _) (fun _ => .asgn _ _ _ _) (.blk hS _)) .stuck
    · exact .stuck
end PD
end
section
/-! PD19: walked things. -/
namespace PD
open PySem PySem.Spec PyProof.Rows L2
variable {α β : Type}
/-- where a walked thing stands: shared, or in its owner's slot -/
def Src (F : Hp) (σ : L2.St) (ρ : Sts) (d : PyData) (x : V) : Prop := Fz F d x ∨ ∃ i : Nat, ρ[i]? = some (Slot.ro d) ∧ σ[i]? = some (some x)
theorem Src.dk {F H : Hp} {σ : L2.St} {ρ : Sts} {A : Ft} (ok : Ok F H σ ρ A) {d : PyData} {x : V} (h : Src F σ ρ d x) : DK F H d x := by
  rcases h with h | ⟨i, h1, h2⟩
  · exact DK.of_fz ok.fok h
  · obtain ⟨o, B, C, e1, g, _, _⟩ := RepS.focus ok.rep h1
    obtain ⟨y, rfl, ry⟩ := g
    rw [h2] at e1
    cases e1
    exact DK.of_ro ry
theorem Src.keep {F F' : Hp} {σ σ' : L2.St} {ρ ρ' : Sts} {d : PyData} {x : V} (h : Src F σ ρ d x) (s : Sub F F') (sm : Same ρ ρ') (sg : ∀ (i : Nat) (d : PyData), ρ[i]? = some (Slot.ro d) → σ'[i]? = σ[i]?) : Src F' σ' ρ' d x := by
  rcases h with h | ⟨i, h1, h2⟩
  · exact .inl (Fz.mono s _ _ h)
  · exact .inr ⟨i, sm.1 i d h1, (sg i d h1).trans h2⟩
section
variable {G : Glob} {X : Cx} {W : WX} {cx : Ctx} {E : Expr → M Vl}
theorem froz_ok {ζ : Type} {R' : Rr β ζ} {F H : Hp} {A B Z : Ft} {σ : L2.St} {ρ : Sts} {b : Bool} {o : Opd} {x : V} {Q : ζ → Hp → Prop} {k : PyData × List Nat → M β} (ok : Ok F H σ ρ A) (r : RO F H σ ρ o x B) (le : ∀ a, A a + B a ≤ 1) (az : Le A Z) (bz : Le B Z) (h : Aft G W R' F H Z σ (bnd (froz b o) k ρ) Q) :
    ∃ d l F' A' ρ', Ok F' H σ ρ' A' ∧ Src F' σ ρ' d x ∧ Le A' A ∧ Sub F F' ∧ (∀ a, F' a ≠ F a → A a ≠ 0 ∨ B a ≠ 0) ∧ Aft G W R' F' H Z σ (k (d, l) ρ') Q ∧ Same ρ ρ' := by
  cases o with
  | t n d =>
    have h' : Aft G W R' F H Z σ (k (d, []) ρ) Q := h
    obtain ⟨F', B', r', ex, ok'⟩ := ok.lowT r le (Nat.zero_le n)
    exact ⟨d, [], F', A, ρ, ok', .inl r'.1, fun _ z => z, ex.sub, fun a z => .inr (ex.new a z).1, h'.base (ex.base bz), .refl ρ⟩
  | s i =>
    unfold bnd froz at h
    cases q : ρ[i]? with
    | none => simp only [q] at h; exact (h : False).elim
    | some s =>
      simp only [q] at h
      cases s with
      | dead => exact (h : False).elim
      | ro d => exact ⟨d, [], F, A, ρ, ok, .inr ⟨i, q, r.1⟩, fun _ z => z, Sub.refl F, fun a z => absurd rfl z, h, .refl ρ⟩
      | val n d =>
        cases n with
        | zero =>
          obtain ⟨o, C, D, e1, g, _, _⟩ := RepS.focus ok.rep q
          obtain ⟨y, rfl, ry⟩ := g
          rw [r.1] at e1; cases e1
          exact ⟨d, [], F, A, ρ, ok, .inl ry.1, fun _ z => z, Sub.refl F, fun a z => absurd rfl z, h, .refl ρ⟩
        | succ n =>
          by_cases hb : b = true
          · simp only [hb, if_true] at h
            obtain ⟨y, F', A', B', e1, ry, ex, ok', la⟩ := ok.lowS q (show 1 ≤ n + 1 by omega)
            rw [r.1] at e1; cases e1
            have lt := (List.getElem?_eq_some_iff.mp q).1
            have q' : (ρ.set i (.val 1 d))[i]? = some (.val 1 d) := by rw [List.getElem?_set_self lt]
            obtain ⟨o, C, D, e2, g, g2, g3⟩ := RepS.focus ok'.rep q'
            obtain ⟨y2, rfl, ry2⟩ := g
            rw [r.1] at e2; cases e2
            have rr : RepRo F' H d x C := by
              cases d with
              | list xs =>
                obtain ⟨a, vs, K, e, f, m, w, s⟩ := ry2
                obtain ⟨w1, w2⟩ := reps0_iff.mp w
                exact ⟨a, vs, e, f, m, w1, fun c => by rw [s c, w2 c]; omega⟩
              | dict kvs =>
                obtain ⟨a, K, e, m, w, s⟩ := ry2
                rcases w with ⟨ks, f, w⟩ | ⟨ks, f, w⟩
                · obtain ⟨w0, w⟩ := repsK_iff.mp w
                  obtain ⟨w1, w2⟩ := reps0_iff.mp w
                  exact ⟨a, e, m, .inl ⟨ks, .inl f, fzK_iff.mpr ⟨w0, w1⟩⟩, fun c => by rw [s c, w2 c]; omega⟩
                · obtain ⟨w0, w⟩ := repsT_iff.mp w
                  obtain ⟨w1, w2⟩ := reps0_iff.mp w
                  exact ⟨a, e, m, .inr ⟨ks, .inl f, fzT_iff.mpr ⟨w0, w1⟩⟩, fun c => by rw [s c, w2 c]; omega⟩
              | tuple xs =>
                obtain ⟨a, vs, e, f, w⟩ := ry2
                obtain ⟨w1, w2⟩ := reps0_iff.mp w
                exact ⟨⟨a, vs, e, f, w1⟩, w2⟩
              | none => exact ry2
              | bool _ => exact ry2
              | int _ => exact ry2
              | str _ => exact ry2
            have := g3 F' H (.ro d) (some x) C A' ⟨Sub.refl F', fun _ _ => rfl, fun _ _ f => f⟩ ⟨x, rfl, rr⟩ g2
            rw [set_self r.1, List.set_set] at this
            refine ⟨d, [i], F', A', ρ.set i (.ro d), ⟨ok'.fok, this, ok'.one⟩, .inr ⟨i, by rw [List.getElem?_set_self lt], r.1⟩, la, ex.sub, fun a z => .inl (ex.new a z).1, ?_, .set (val_not_ro q)⟩
            exact h.base (ex.base az)
          · simp only [hb] at h
            obtain ⟨y, F', A', B', e1, ry, ex, ok', la⟩ := ok.lowS q (Nat.zero_le (n + 1))
            rw [r.1] at e1; cases e1
            refine ⟨d, [], F', A', ρ.set i (.val 0 d), ok', .inl ry.1, la, ex.sub, fun a z => .inl (ex.new a z).1, ?_, .set (val_not_ro q)⟩
            exact h.base (ex.base az)

/-! ### an iterator over data -/
structure Wk (J : L2.It) (xs : List PyData) (KI : Hp → Hp → L2.St → Sts → Prop) : Prop where
  go : ∀ i F H σ ρ A, Ok F H σ ρ A → KI F H σ ρ → i < xs.length → J.go i H
  yld : ∀ i F H σ ρ A d x H', Ok F H σ ρ A → KI F H σ ρ → xs[i]? = some d → J.yld i H x H' → ∃ F', Go F H A F' H' A ∧ Ok F' H' σ ρ A ∧ Fz F' d x
  stop : ∀ i F H σ ρ A, Ok F H σ ρ A → KI F H σ ρ → xs.length ≤ i → J.stop i H
  keep : ∀ F H F' H' σ σ' ρ ρ' A A', KI F H σ ρ → Go F H A F' H' A' → Same ρ ρ' → (∀ (i : Nat) (d : PyData), ρ[i]? = some (Slot.ro d) → σ'[i]? = σ[i]?) → KI F' H' σ' ρ'
theorem wk_range {lo hi : Int} : Wk (Itr lo (hi - lo).toNat) (rangeD lo hi) (fun _ _ _ _ => True) where
  go := fun i F H σ ρ A ok k h => by
    unfold rangeD at h
    rw [List.length_map, List.length_range] at h
    exact h
  yld := fun i F H σ ρ A d x H' ok k h y => by
    obtain ⟨e, rfl⟩ := y
    subst e
    unfold rangeD at h
    rw [List.getElem?_map] at h
    have lt : i < (hi - lo).toNat := by
      by_cases q : i < (hi - lo).toNat
      · exact q
      · rw [List.getElem?_eq_none (by simpa using q)] at h; cases h
    rw [List.getElem?_range lt] at h
    cases h
    exact ⟨F, Go.refl F H' A, ok, rfl⟩
  stop := fun i F H σ ρ A ok k h => by
    unfold rangeD at h
    rw [List.length_map, List.length_range] at h
    exact h
  keep := fun _ _ _ _ _ _ _ _ _ _ h _ _ _ => trivial
theorem wk_list {K : PySem.W.Frag} {xs : List PyData} {a : Addr} : Wk (Itl K a) xs (fun F H σ ρ => Src F σ ρ (.list xs) (.ref a)) where
  go := fun i F H σ ρ A ok k h => by
    obtain ⟨b, vs, e, hr, fz⟩ := Src.dk ok k
    cases e
    have l := fz.len
    exact ⟨vs, vs[i]'(by omega), .inl hr, by simp⟩
  yld := fun i F H σ ρ A d x H' ok k h y => by
    obtain ⟨b, vs, e, hr, fz⟩ := Src.dk ok k
    cases e
    obtain ⟨e, y⟩ := y
    subst e
    exact ⟨F, Go.refl F H' A, ok, Fzs.get fz h (y vs (.inl hr))⟩
  stop := fun i F H σ ρ A ok k h => by
    obtain ⟨b, vs, e, hr, fz⟩ := Src.dk ok k
    cases e
    exact ⟨vs, .inl hr, by rw [fz.len]; exact h⟩
  keep := fun F H F' H' σ σ' ρ ρ' A A' k g s q => k.keep g.ex s q
theorem wk_tup {K : PySem.W.Frag} {xs : List PyData} {a : Addr} : Wk (Itt K a) xs (fun F H σ ρ => Fz F (.tuple xs) (.ref a)) where
  go := fun i F H σ ρ A ok k h => by
    obtain ⟨b, vs, e, hr, fz⟩ := k
    cases e
    have l := fz.len
    exact ⟨vs, vs[i]'(by omega), .of (show H a = _ from ok.fok _ _ hr), by simp⟩
  yld := fun i F H σ ρ A d x H' ok k h y => by
    obtain ⟨b, vs, e, hr, fz⟩ := k
    cases e
    obtain ⟨e, y⟩ := y
    subst e
    exact ⟨F, Go.refl F H' A, ok, Fzs.get fz h (y vs (.of (show H' a = _ from ok.fok _ _ hr)))⟩
  stop := fun i F H σ ρ A ok k h => by
    obtain ⟨b, vs, e, hr, fz⟩ := k
    cases e
    exact ⟨vs, .of (show H a = _ from ok.fok _ _ hr), by rw [fz.len]; exact h⟩
  keep := fun F H F' H' σ σ' ρ ρ' A A' k g s q => Fz.mono g.ex _ _ k
theorem wk_str {z : PySem.Str} : Wk (Its z) (z.cps.toList.map fun c => .str ⟨#[c]⟩) (fun _ _ _ _ => True) where
  go := fun i F H σ ρ A ok k h => by simpa [Its] using h
  yld := fun i F H σ ρ A d x H' ok k h y => by
    obtain ⟨e, c, hc, rfl⟩ := y
    subst e
    rw [List.getElem?_map] at h
    rw [← Array.getElem?_toList] at hc
    rw [hc] at h
    cases h
    exact ⟨F, Go.refl F H' A, ok, rfl⟩
  stop := fun i F H σ ρ A ok k h => by simpa [Its] using h
  keep := fun _ _ _ _ _ _ _ _ _ _ h _ _ _ => trivial
theorem keys_get {F : Hp} : ∀ {kvs : List (PyData × PyData)} {ks : List (Key × V)} {i : Nat} {d : PyData} {k : Key} {v : V}, FzK F kvs ks → (kvs.map (·.1))[i]? = some d → ks[i]? = some (k, v) → d = keyPy k
  | [], _, _, _, _, _, _, h, _ => by simp at h
  | (j, y) :: r, _, 0, d, k, v, ⟨q, w, t, e, ej, _, _⟩, h, h' => by
    subst e
    simp at h h'
    rw [← h, ej, h'.1]
  | (j, y) :: r, _, i + 1, d, k, v, ⟨q, w, t, e, ej, _, b⟩, h, h' => by
    subst e
    exact keys_get b (by simpa using h) (by simpa using h')
theorem FzK.len {F : Hp} : ∀ {kvs : List (PyData × PyData)} {ks : List (Key × V)}, FzK F kvs ks → ks.length = kvs.length
  | [], _, h => by cases (show _ = [] from h); rfl
  | (k, x) :: xs, _, ⟨q, v, r, e, ek, a, b⟩ => by rw [e]; simp [FzK.len b]
theorem wk_dict {kvs : List (PyData × PyData)} {a : Addr} {od : Obj} {ks : List (Key × V)} : Wk (Itk a od ks) (kvs.map (·.1)) (fun F H σ ρ => FzK F kvs ks ∧ H a = some (.frz od (.dK ks))) where
  go := fun i F H σ ρ A ok k h => ⟨k.2, by rw [k.1.len]; simpa using h⟩
  yld := fun i F H σ ρ A d x H' ok k h y => by
    obtain ⟨e, q, v, hq, rfl⟩ := y
    subst e
    have := keys_get k.1 h hq
    subst this
    exact ⟨F, Go.refl F H' A, ok, by cases q <;> rfl⟩
  stop := fun i F H σ ρ A ok k h => ⟨k.2, by rw [k.1.len]; simpa using h⟩
  keep := fun F H F' H' σ σ' ρ ρ' A A' k g s q => ⟨FzK.mono g.ex _ _ k.1, g.fz _ _ _ k.2⟩
theorem wk_dict0 {a : Addr} {od : Obj} : Wk (Itkt a od []) [] (fun F H σ ρ => H a = some (.frz od (.dT []))) where
  go := fun i F H σ ρ A ok k h => absurd h (by simp)
  yld := fun i F H σ ρ A d x H' ok k h y => by simp at h
  stop := fun i F H σ ρ A ok k h => ⟨k, Nat.zero_le _⟩
  keep := fun F H F' H' σ σ' ρ ρ' A A' k g s q => g.fz _ _ _ k
/-- a pair just laid -/
theorem new_pair {F H : Hp} {σ : L2.St} {ρ : Sts} {A : Ft} (ok : Ok F H σ ρ A) {T : Addr} (hT : H T = none) {vs : List V} : Go F H A (upd F T (.tup vs)) (upd H T (.tup vs)) A ∧ Ok (upd F T (.tup vs)) (upd H T (.tup vs)) σ ρ A ∧ Sub F (upd F T (.tup vs)) := by
  have fp := ok.fok.free hT
  have sb : Sub F (upd F T (.tup vs)) := sub_upd fp
  have na : ∀ a, A a ≠ 0 → a ≠ T := fun a z e => RepS.live ok.rep a z (e ▸ hT)
  refine ⟨⟨sb, fun a o u h => (upd_ne fun z => by rw [z, hT] at h; cases h).trans h, fun a _ n => upd_ne fun z => n (z ▸ hT), fun a z => .inl z, fun a z => .inr ?_⟩, ⟨fok_upd (ok.fok.new hT) (rt_of upd_same), RepS.mono ⟨sb, fun a z => upd_ne (na a z), fun a z f => (upd_ne (na a z)).trans f⟩ ok.rep, ok.one⟩, sb⟩
  by_cases e : a = T
  · rw [e]; exact hT
  · rw [upd_ne e] at z; exact absurd rfl z
theorem enum_get : ∀ (xs : List PyData) (n i : Nat) {d : PyData}, (enumD n xs)[i]? = some d → ∃ e, xs[i]? = some e ∧ d = .tuple [.int ((n + i : Nat) : Int), e]
  | [], _, _, _, h => by simp [enumD] at h
  | x :: xs, n, 0, d, h => by
    simp [enumD] at h
    exact ⟨x, rfl, by rw [← h]; simp⟩
  | x :: xs, n, i + 1, d, h => by
    obtain ⟨e, h1, h2⟩ := enum_get xs (n + 1) i (by simpa [enumD] using h)
    exact ⟨e, by simpa using h1, by rw [h2]; congr 4; omega⟩
theorem enum_len : ∀ (xs : List PyData) (n : Nat), (enumD n xs).length = xs.length
  | [], _ => rfl
  | x :: xs, n => by simp [enumD, enum_len xs (n + 1)]
theorem wk_enum {K : PySem.W.Frag} {xs : List PyData} {a : Addr} : Wk (Ite K a) (enumD 0 xs) (fun F H σ ρ => Src F σ ρ (.list xs) (.ref a)) where
  go := fun i F H σ ρ A ok k h => by
    obtain ⟨b, vs, e, hr, fz⟩ := Src.dk ok k
    cases e
    have l := fz.len
    rw [enum_len] at h
    exact ⟨vs, vs[i]'(by omega), .inl hr, by simp⟩
  yld := fun i F H σ ρ A d x H' ok k h y => by
    obtain ⟨b, vs, e, hr, fz⟩ := Src.dk ok k
    cases e
    obtain ⟨T, v, rfl, hT, rfl, y⟩ := y
    obtain ⟨e, h1, rfl⟩ := enum_get xs 0 i h
    obtain ⟨g, ok', sb⟩ := new_pair ok hT (vs := [.int (i : Nat), v])
    refine ⟨_, g, ok', T, _, rfl, upd_same, .int (i : Nat), [v], rfl, by show V.int _ = V.int _; congr 2; omega, v, [], rfl, Fz.mono sb _ _ (Fzs.get fz h1 (y vs (.inl hr))), rfl⟩
  stop := fun i F H σ ρ A ok k h => by
    obtain ⟨b, vs, e, hr, fz⟩ := Src.dk ok k
    cases e
    rw [enum_len] at h
    exact ⟨vs, .inl hr, by rw [fz.len]; exact h⟩
  keep := fun F H F' H' σ σ' ρ ρ' A A' k g s q => k.keep g.ex s q
theorem zip_get : ∀ (xs ys : List PyData) (i : Nat) {d : PyData}, (List.zipWith (fun x y => PyData.tuple [x, y]) xs ys)[i]? = some d → ∃ e f, xs[i]? = some e ∧ ys[i]? = some f ∧ d = .tuple [e, f]
  | [], _, _, _, h => by simp at h
  | _ :: _, [], _, _, h => by simp at h
  | x :: xs, y :: ys, 0, d, h => by simp at h; exact ⟨x, y, rfl, rfl, h.symm⟩
  | x :: xs, y :: ys, i + 1, d, h => by
    obtain ⟨e, f, h1, h2, h3⟩ := zip_get xs ys i (by simpa using h)
    exact ⟨e, f, by simpa using h1, by simpa using h2, h3⟩
theorem wk_zip {K : PySem.W.Frag} {xs ys : List PyData} {a b : Addr} : Wk (Itz K a b) (List.zipWith (fun x y => .tuple [x, y]) xs ys) (fun F H σ ρ => Src F σ ρ (.list xs) (.ref a) ∧ Src F σ ρ (.list ys) (.ref b)) where
  go := fun i F H σ ρ A ok k h => by
    obtain ⟨a', vs, e, hr, fz⟩ := Src.dk ok k.1
    cases e
    obtain ⟨b', ws, e, hr', fz'⟩ := Src.dk ok k.2
    cases e
    have l := fz.len
    have l' := fz'.len
    rw [List.length_zipWith] at h
    exact ⟨vs, ws, vs[i]'(by omega), ws[i]'(by omega), .inl hr, .inl hr', by simp, by simp⟩
  yld := fun i F H σ ρ A d x H' ok k h y => by
    obtain ⟨a', vs, e, hr, fz⟩ := Src.dk ok k.1
    cases e
    obtain ⟨b', ws, e, hr', fz'⟩ := Src.dk ok k.2
    cases e
    obtain ⟨T, v, w, rfl, hT, rfl, y1, y2⟩ := y
    obtain ⟨e, f, h1, h2, rfl⟩ := zip_get xs ys i h
    obtain ⟨g, ok', sb⟩ := new_pair ok hT (vs := [v, w])
    exact ⟨_, g, ok', T, _, rfl, upd_same, v, [w], rfl, Fz.mono sb _ _ (Fzs.get fz h1 (y1 vs (.inl hr))), w, [], rfl, Fz.mono sb _ _ (Fzs.get fz' h2 (y2 ws (.inl hr'))), rfl⟩
  stop := fun i F H σ ρ A ok k h => by
    obtain ⟨a', vs, e, hr, fz⟩ := Src.dk ok k.1
    cases e
    obtain ⟨b', ws, e, hr', fz'⟩ := Src.dk ok k.2
    cases e
    have l := fz.len
    have l' := fz'.len
    rw [List.length_zipWith] at h
    exact ⟨vs, ws, .inl hr, .inl hr', by omega⟩
  keep := fun F H F' H' σ σ' ρ ρ' A A' k g s q => ⟨k.1.keep g.ex s q, k.2.keep g.ex s q⟩
theorem wk_zipT {K : PySem.W.Frag} {xs ys : List PyData} {a b : Addr} : Wk (RZ.ItzT K a b) (List.zipWith (fun x y => .tuple [x, y]) xs ys) (fun F H σ ρ => Src F σ ρ (.tuple xs) (.ref a) ∧ Src F σ ρ (.tuple ys) (.ref b)) where
  go := fun i F H σ ρ A ok k h => by
    obtain ⟨a', vs, e, hF, fz⟩ := Src.dk ok k.1
    have hr := rt_rd (ok.fok _ _ hF)
    cases e
    obtain ⟨b', ws, e, hF', fz'⟩ := Src.dk ok k.2
    have hr' := rt_rd (ok.fok _ _ hF')
    cases e
    have l := fz.len
    have l' := fz'.len
    rw [List.length_zipWith] at h
    exact ⟨vs, ws, vs[i]'(by omega), ws[i]'(by omega), .inl hr, .inl hr', by simp, by simp⟩
  yld := fun i F H σ ρ A d x H' ok k h y => by
    obtain ⟨a', vs, e, hF, fz⟩ := Src.dk ok k.1
    have hr := rt_rd (ok.fok _ _ hF)
    cases e
    obtain ⟨b', ws, e, hF', fz'⟩ := Src.dk ok k.2
    have hr' := rt_rd (ok.fok _ _ hF')
    cases e
    obtain ⟨T, v, w, rfl, hT, rfl, y1, y2⟩ := y
    obtain ⟨e, f, h1, h2, rfl⟩ := zip_get xs ys i h
    obtain ⟨g, ok', sb⟩ := new_pair ok hT (vs := [v, w])
    exact ⟨_, g, ok', T, _, rfl, upd_same, v, [w], rfl, Fz.mono sb _ _ (Fzs.get fz h1 (y1 vs (.inl hr))), w, [], rfl, Fz.mono sb _ _ (Fzs.get fz' h2 (y2 ws (.inl hr'))), rfl⟩
  stop := fun i F H σ ρ A ok k h => by
    obtain ⟨a', vs, e, hF, fz⟩ := Src.dk ok k.1
    have hr := rt_rd (ok.fok _ _ hF)
    cases e
    obtain ⟨b', ws, e, hF', fz'⟩ := Src.dk ok k.2
    have hr' := rt_rd (ok.fok _ _ hF')
    cases e
    have l := fz.len
    have l' := fz'.len
    rw [List.length_zipWith] at h
    exact ⟨vs, ws, .inl hr, .inl hr', by omega⟩
  keep := fun F H F' H' σ σ' ρ ρ' A A' k g s q => ⟨k.1.keep g.ex s q, k.2.keep g.ex s q⟩
end
end PD
end
section
/-! PD20: dicts that are walked are locked. -/
namespace PD
open PySem PySem.Spec PyProof.Rows L2
variable {α β : Type}
def isDictO (u : HO) : Prop := (∃ ks, u = .dK ks) ∨ ∃ ks, u = .dT ks
theorem isDictO.not_frz {u : HO} (h : isDictO u) : ∀ o v, u ≠ .frz o v := fun o v e => by
  rcases h with ⟨ks, h⟩ | ⟨ks, h⟩ <;> (rw [h] at e; cases e)
theorem isDictO.mut {u : HO} (h : isDictO u) : Mut (some u) := by
  rcases h with ⟨ks, rfl⟩ | ⟨ks, rfl⟩ <;> trivial
/-- the locked thing is shared, or a slot's own -/
def LSrc (F : Hp) (σ : L2.St) (ρ : Sts) (d : Addr) (u : HO) : Prop := F d = some u ∨ (F d = none ∧ ∃ (i : Nat) (kvs : List (PyData × PyData)), ρ[i]? = some (Slot.ro (.dict kvs)) ∧ σ[i]? = some (some (.ref d)))
theorem Ok.rewr {F H : Hp} {σ : L2.St} {ρ : Sts} {A : Ft} {d : Addr} {u w : HO} (ok : Ok F H σ ρ A) (hu : isDictO u) (r : Rd H d u) (r' : Rd (upd H d w) d u) (ls : LSrc F σ ρ d u) : Ok F (upd H d w) σ ρ A := by
  have fk : FOk F (upd H d w) := fun a v e => by
    by_cases q : a = d
    · subst q
      rcases ls with l | ⟨l, _⟩
      · rw [l] at e; cases e
        rcases hu with ⟨ks, rfl⟩ | ⟨ks, rfl⟩ <;> exact r'
      · rw [l] at e; cases e
    · exact rt_keep (upd_ne q) (ok.fok a v e)
  refine ⟨fk, ?_, ok.one⟩
  rcases ls with l | ⟨l, i, kvs, h1, h2⟩
  · refine RepS.mono ⟨Sub.refl F, fun a z => upd_ne fun e => ?_, fun a z f => f⟩ ok.rep
    have := RepS.free ok.rep a z
    rw [e, l] at this
    cases this
  · obtain ⟨o, B, C, e1, g, g2, g3⟩ := RepS.focus ok.rep h1
    obtain ⟨y, rfl, ry⟩ := g
    rw [h2] at e1; cases e1
    obtain ⟨a, e, fa, rr, s⟩ := ry
    cases e
    have one := ok.one d
    have cd : C d = 0 := by have := g2 d; rw [s d, sg_same] at this; omega
    have inj : ∀ {v : HO}, Rd H d v → (∀ o x, v ≠ .frz o x) → v = u := fun h n => rd_inj h r n hu.not_frz
    have ro' : RepRo F (upd H d w) (.dict kvs) (.ref d) B := by
      refine ⟨d, rfl, fa, ?_, s⟩
      rcases rr with ⟨ks, f, w'⟩ | ⟨ks, f, w'⟩
      · have := inj f fun _ _ z => nomatch z
        subst this
        exact .inl ⟨ks, r', w'⟩
      · have := inj f fun _ _ z => nomatch z
        subst this
        exact .inr ⟨ks, r', w'⟩
    have := g3 F (upd H d w) (.ro (.dict kvs)) (some (.ref d)) B A ⟨Sub.refl F, fun a z => upd_ne fun e => by rw [e, cd] at z; exact z rfl, fun a z f => f⟩ ⟨_, rfl, ro'⟩ g2
    rw [set_self h1, set_self h2] at this
    exact this
/-- what is locked (address, its object, what stands there) -/
abbrev Lk := Option (Addr × Obj × HO)
def ul : Lk → Hp → Hp
  | none, H => H
  | some (d, _, u), H => upd H d u
def LkOk (X : Cx) (σ : L2.St) (ρ : Sts) (F H1 Hl : Hp) (xs : Walk) : Lk → Prop
  | none => Hl = H1
  | some (d, od, u) => xs.lk = true ∧ H1 d = some u ∧ isDictO u ∧ (∀ o' u', X.H_0 d ≠ some (.frz o' u')) ∧ Hl = upd H1 d (.frz od u) ∧ LSrc F σ ρ d u
/-- the locked state -/
def UL (X : Cx) (H : Hp) : Lk → Prop
  | none => True
  | some (d, od, u) => H d = some (.frz od u) ∧ isDictO u ∧ ∀ o' u', X.H_0 d ≠ some (.frz o' u')
theorem LSrc.keep {F F' : Hp} {H H' : Hp} {σ σ' : L2.St} {ρ ρ' : Sts} {A A' : Ft} {d : Addr} {u : HO} (h : LSrc F σ ρ d u) (g : Go F H A F' H' A') (ok' : Ok F' H' σ' ρ' A') (sm : Same ρ ρ') (sg : ∀ (i : Nat) (d : PyData), ρ[i]? = some (Slot.ro d) → σ'[i]? = σ[i]?) : LSrc F' σ' ρ' d u := by
  rcases h with h | ⟨_, i, kvs, h1, h2⟩
  · exact .inl (g.ex _ _ h)
  · have h1' := sm.1 i _ h1
    have h2' := (sg i _ h1).trans h2
    obtain ⟨o, B, C, e1, gg, _, _⟩ := RepS.focus ok'.rep h1'
    obtain ⟨y, rfl, ry⟩ := gg
    rw [h2'] at e1; cases e1
    obtain ⟨a, e, fa, _⟩ := ry
    cases e
    exact .inr ⟨fa, i, kvs, h1', h2'⟩
theorem Ok.unlock {X : Cx} {F H : Hp} {σ : L2.St} {ρ : Sts} {A : Ft} {lk : Lk} (ok : Ok F H σ ρ A) (hl : UL X H lk) (ls : ∀ d od u, lk = some (d, od, u) → LSrc F σ ρ d u) : Ok F (ul lk H) σ ρ A := by
  cases lk with
  | none => exact ok
  | some p =>
    obtain ⟨d, od, u⟩ := p
    exact ok.rewr hl.2.1 (.inr ⟨od, hl.1⟩) (.inl upd_same) (ls d od u rfl)
/-- behind the lock, as from the unlocked heap -/
theorem Go.unlock {X : Cx} {σ : L2.St} {ρ : Sts} {xs : Walk} {F1 H1 Hl F H : Hp} {Z A : Ft} {lk : Lk} (h : LkOk X σ ρ F1 H1 Hl xs lk) (g : Go F1 Hl Z F H A) : Go F1 H1 Z F (ul lk H) A := by
  cases lk with
  | none => rw [show Hl = H1 from h] at g; exact g
  | some p =>
    obtain ⟨d, od, u⟩ := p
    obtain ⟨_, h1, hu, _, rfl, _⟩ := h
    have none_iff : ∀ a, upd H1 d (.frz od u) a = none ↔ H1 a = none := fun a => by
      by_cases q : a = d
      · subst q; rw [upd_same, h1]; simp
      · rw [upd_ne q]
    refine ⟨g.ex, fun a o v e => ?_, fun a z n => ?_, fun a z => (g.nw a z).imp_right (none_iff a).mp, fun a z => (g.nf a z).imp_right (none_iff a).mp⟩
    · have q : a ≠ d := fun z => by rw [z, h1] at e; exact hu.not_frz _ _ (Option.some.inj e)
      show upd H d u a = _
      rw [upd_ne q]
      exact g.fz a o v (by rw [upd_ne q]; exact e)
    · show upd H d u a = _
      by_cases q : a = d
      · subst q; rw [upd_same, h1]
      · rw [upd_ne q]
        have := g.fr a z (by rw [upd_ne q]; exact n)
        rw [upd_ne q] at this
        exact this
theorem LkOk.ul {X : Cx} {σ : L2.St} {ρ : Sts} {xs : Walk} {F1 H1 Hl F H : Hp} {Z A : Ft} {lk : Lk} (h : LkOk X σ ρ F1 H1 Hl xs lk) (g : Go F1 Hl Z F H A) : UL X H lk := by
  cases lk with
  | none => trivial
  | some p =>
    obtain ⟨d, od, u⟩ := p
    obtain ⟨_, h1, hu, hn, rfl, _⟩ := h
    exact ⟨g.fz d od u upd_same, hu, hn⟩
theorem LkOk.src {X : Cx} {σ : L2.St} {ρ : Sts} {xs : Walk} {F1 H1 Hl : Hp} {lk : Lk} (h : LkOk X σ ρ F1 H1 Hl xs lk) : ∀ d od u, lk = some (d, od, u) → LSrc F1 σ ρ d u := fun d od u e => by
  subst e
  exact h.2.2.2.2.2
section
variable {G : Glob} {X : Cx} {W : WX} {cx : Ctx} {E : Expr → M Vl}
/-! the wrapper that unlocks -/
def unl (X : Cx) (D : Ends) : Ends := ⟨fun σ' H' => ∃ lk, UL X H' lk ∧ D.nx σ' (ul lk H'), fun v H' => ∃ lk, UL X H' lk ∧ D.rt v (ul lk H'), fun σ' H' => ∃ lk, UL X H' lk ∧ D.bk σ' (ul lk H'), fun σ' H' => ∃ lk, UL X H' lk ∧ D.ct σ' (ul lk H')⟩
theorem UL.inv {pins : List (Addr × Obj)} {σ : L2.St} {H : Hp} {s : Shared} {lk : Lk} (h : UL X H lk) (I : Inv X pins σ H s) : Inv X pins σ (ul lk H) s := by
  cases lk with
  | none => exact I
  | some p =>
    obtain ⟨d, od, u⟩ := p
    exact I.unlock h.1 h.2.2
theorem ps_free {st : Stmt} {t : TS} (h : PS X st t) : PS X st (fun D σ H => t (unl X D) σ H) := by
  refine ⟨fun pins s σ H D I hw => thn (h.run pins s σ H _ I hw) fun f s1 q => ?_⟩
  cases f with
  | next => obtain ⟨σ', H', I2, lk, u, q⟩ := q; exact ⟨σ', _, u.inv I2, q⟩
  | brk => obtain ⟨σ', H', I2, lk, u, q⟩ := q; exact ⟨σ', _, u.inv I2, q⟩
  | cont => obtain ⟨σ', H', I2, lk, u, q⟩ := q; exact ⟨σ', _, u.inv I2, q⟩
  | ret v => obtain ⟨x, σ', H', I2, r, lk, u, q⟩ := q; exact ⟨x, σ', _, u.inv I2, r, q⟩
theorem pe_free {e : Expr} {t : TE} (h : PE X e t) : PE X e (fun σ H Q => t σ H fun x H' => ∃ lk, UL X H' lk ∧ Q x (ul lk H')) := by
  refine ⟨fun pins s σ H Q I hw => thn (h.run pins s σ H _ I hw) fun u s1 ⟨x, H1, I1, r, lk, hu, q⟩ => ⟨x, _, hu.inv I1, r, q⟩⟩
/-- a value, its object locked where one wishes -/
def tLk (X : Cx) (td : TE) : TE := fun σ H Q => td σ H fun x H1 => Q x H1 ∨ ∃ d u, x = .ref d ∧ H1 d = some u ∧ Mut (some u) ∧ ∀ od, (∀ o' u', X.H_0 d ≠ some (.frz o' u')) → Q x (upd H1 d (.frz od u))
theorem pe_lk {e : Expr} {td : TE} (h : PE X e td) : PE X e (tLk X td) := by
  refine ⟨fun pins s σ H Q I hw => thn (h.run pins s σ H _ I hw) fun u s1 ⟨x, H1, I1, r, q⟩ => ?_⟩
  rcases q with q | ⟨d, u', e, hd, mu, q⟩
  · exact ⟨x, H1, I1, r, q⟩
  · obtain ⟨od, I2⟩ := I1.lock hd mu
    exact ⟨x, _, I2, r, q od (I1.nofrz hd mu)⟩
theorem PI_or {tg e : Expr} {w1 w2 : TI} (h1 : PI X tg e w1) (h2 : PI X tg e w2) : PI X tg e (fun σ H R => w1 σ H R ∨ w2 σ H R) := ⟨fun pins s σ H R I h => by
  rcases h with h | h
  · exact h1.run pins s σ H R I h
  · exact h2.run pins s σ H R I h⟩
end
end PD
end
section
/-! PD21: walks as the rules want them. -/
namespace PD
open PySem PySem.Spec PyProof.Rows L2
variable {α β : Type}
/-- behind a walk's head: the iterator, what it yields -/
def RoOk (σ : L2.St) (ρ : Sts) (W : Walk) (lk : Lk) : Prop := ∀ i, i ∈ W.ro → ∃ d, ρ[i]? = some (Slot.ro d) ∧ ∀ kvs, d = .dict kvs → ∃ a od u, lk = some (a, od, u) ∧ σ[i]? = some (some (.ref a))
def WStep {β ζ : Type} (G : Glob) (Wx : WX) (X : Cx) (R' : Rr β ζ) (F H : Hp) (A Z : Ft) (σ : L2.St) (ρ : Sts) (m : M Walk) (k : Walk → M β) (Q : ζ → Hp → Prop) (R : L2.It → Hp → Prop) : Prop :=
  ∀ (W : Walk) J KI lk F1 H1 Hl A1 Z1 ρ1, m ρ = some (.ok W ρ1) → Wk J W.xs KI → Go F H A F1 H1 A1 → Ok F1 H1 σ ρ1 A1 → LkOk X σ ρ1 F1 H1 Hl W lk → Ok F1 Hl σ ρ1 A1 → KI F1 Hl σ ρ1 → RoOk σ ρ1 W lk → Le A1 Z1 → Le Z Z1 → Aft G Wx R' F1 H1 Z1 σ (k W ρ1) Q → R J Hl
def WOk (G : Glob) (Wx : WX) (X : Cx) (tg it : Expr) (m : M Walk) : Prop := ∃ wi : TI, PI X tg it wi ∧ ∀ {β ζ : Type} {R' : Rr β ζ} {F H : Hp} {A Z : Ft} {σ : L2.St} {ρ : Sts} {k : Walk → M β} {Q : ζ → Hp → Prop} {R : L2.It → Hp → Prop},
  Ok F H σ ρ A → Le A Z → Aft G Wx R' F H Z σ (bnd m k ρ) Q → WStep G Wx X R' F H A Z σ ρ m k Q R → wi σ H R
section
variable {G : Glob} {X : Cx} {W : WX} {cx : Ctx} {E : Expr → M Vl} {tg it : Expr}
theorem froz_pure {b : Bool} {o : Opd} {ρ : Sts} (h : froz b o ρ ≠ none) : ∃ d l ρ', froz b o ρ = some (.ok (d, l) ρ') := by
  unfold froz at h ⊢
  split at h
  · exact ⟨_, _, _, rfl⟩
  · split at h
    · exact ⟨_, _, _, rfl⟩
    · split at h
      · rename_i hb
        subst hb
        exact ⟨_, _, _, rfl⟩
      · rename_i hb
        have : b = false := by cases b <;> first | rfl | exact absurd rfl hb
        subst this
        exact ⟨_, _, _, rfl⟩
    · exact ⟨_, _, _, rfl⟩
    · exact absurd rfl h
/-- the slots that froz takes -/
theorem froz_ros {F H : Hp} {σ : L2.St} {A B : Ft} {b : Bool} {o : Opd} {x : V} {ρ ρ' : Sts} {d : PyData} {l : List Nat} (ok : Ok F H σ ρ A) (r : RO F H σ ρ o x B) (h : froz b o ρ = some (.ok (d, l) ρ')) : ∀ i, i ∈ l → ρ'[i]? = some (Slot.ro d) ∧ σ[i]? = some (some x) ∧ (∀ kvs, d = .dict kvs → ∀ a, x = .ref a → ∃ u, H a = some u ∧ isDictO u) := by
  unfold froz at h
  split at h
  · cases h; exact fun _ z => nomatch z
  · rename_i j
    split at h
    · cases h; exact fun _ z => nomatch z
    · rename_i k d' e
      split at h
      · cases h
        intro i hi
        have : i = j := by simpa using hi
        subst this
        have lt := (List.getElem?_eq_some_iff.mp e).1
        refine ⟨by rw [List.getElem?_set_self lt], r.1, fun kvs ed a ea => ?_⟩
        subst ed ea
        obtain ⟨o, C, D, e1, g, _, _⟩ := RepS.focus ok.rep e
        obtain ⟨y, rfl, ry⟩ := g
        rw [r.1] at e1; cases e1
        obtain ⟨a', K, e2, f, w, s⟩ := ry
        cases e2
        rcases w with ⟨ks, w, _⟩ | ⟨ks, w, _⟩
        · exact ⟨_, w, .inl ⟨ks, rfl⟩⟩
        · exact ⟨_, w, .inr ⟨ks, rfl⟩⟩
      · cases h; exact fun _ z => nomatch z
    · cases h; exact fun _ z => nomatch z
    · cases h
theorem bnd_run {m : M α} {k : α → M β} {ρ ρ1 : Sts} {a : α} (h : m ρ = some (.ok a ρ1)) : bnd m k ρ = k a ρ1 := by
  unfold bnd
  rw [h]
open Classical in
/-- froz, with what is known of it -/
theorem froz_full {ζ : Type} {R' : Rr β ζ} {F H : Hp} {A B Z : Ft} {σ : L2.St} {ρ : Sts} {b : Bool} {o : Opd} {x : V} {Q : ζ → Hp → Prop} {k : PyData × List Nat → M β} (ok : Ok F H σ ρ A) (r : RO F H σ ρ o x B) (le : ∀ a, A a + B a ≤ 1) (az : Le A Z) (bz : Le B Z) (h : Aft G W R' F H Z σ (bnd (froz b o) k ρ) Q) :
    ∃ d l F' A' ρ', froz b o ρ = some (.ok (d, l) ρ') ∧ Ok F' H σ ρ' A' ∧ Src F' σ ρ' d x ∧ Le A' A ∧ Sub F F' ∧ (∀ a, F' a ≠ F a → A a ≠ 0 ∨ B a ≠ 0) ∧ Aft G W R' F' H Z σ (k (d, l) ρ') Q := by
  have hn : froz b o ρ ≠ none := fun e => by unfold bnd at h; rw [e] at h; exact h
  obtain ⟨d, l, ρ', e⟩ := froz_pure hn
  have h0 : Aft G W R' F H Z σ (bnd (froz b o) (fun p ρ2 => if froz b o ρ = some (.ok p ρ2) then k p ρ2 else none) ρ) Q := by
    rw [bnd_run e] at h ⊢
    rw [if_pos e]
    exact h
  obtain ⟨d2, l2, F', A', ρ2, ok', src, la, sb, nf, h', _⟩ := froz_ok ok r le az bz h0
  split at h'
  · rename_i e2
    exact ⟨d2, l2, F', A', ρ2, e2, ok', src, la, sb, nf, h'⟩
  · exact (h' : False).elim
theorem src_lsrc {F H : Hp} {σ : L2.St} {ρ : Sts} {A : Ft} {kvs : List (PyData × PyData)} {a : Addr} {u : HO} (ok : Ok F H σ ρ A) (h : Src F σ ρ (.dict kvs) (.ref a)) (hd : Rd H a u) (hu : isDictO u) : LSrc F σ ρ a u := by
  rcases h with ⟨a', e, h⟩ | ⟨i, h1, h2⟩
  · cases e
    left
    rcases h with ⟨ks, f, _⟩ | ⟨ks, f, _⟩
    · have r : Rd H a (.dK ks) := ok.fok _ _ f
      have := rd_inj r hd (fun _ _ z => nomatch z) hu.not_frz
      rw [← this]; exact f
    · have r : Rd H a (.dT ks) := ok.fok _ _ f
      have := rd_inj r hd (fun _ _ z => nomatch z) hu.not_frz
      rw [← this]; exact f
  · obtain ⟨o, B, C, e1, g, _, _⟩ := RepS.focus ok.rep h1
    obtain ⟨y, rfl, ry⟩ := g
    rw [h2] at e1; cases e1
    obtain ⟨a', e, fa, _⟩ := ry
    cases e
    exact .inr ⟨fa, i, kvs, h1, h2⟩
theorem e_walkO {b : Bool} {a : M Opd} (ha : PE X it (tM G W RO a)) : WOk G W X tg it (walkO b a) := by
  refine ⟨_, PI_or (pi_list ha) (PI_or (pi_tup ha) (PI_or (pi_str ha) (pi_keys (pe_lk ha)))), fun {β ζ R' F H A Z σ ρ k Q R} ok az h st => ?_⟩
  have h : Aft G W R' F H Z σ (bnd (bnd a fun x => bnd (froz b x) fun d => bnd (lif (itemsD d.1)) fun xs => ret (Walk.mk xs d.2 (isDictD d.1))) k ρ) Q := h
  rw [bnd_bnd] at h
  -- what is walked, by the evaluator alone
  have go : ∀ (P : PyData → Prop) (Rr : V → Hp → Prop), (∀ o ρ1 d l ρ2, a ρ = some (.ok o ρ1) → froz b o ρ1 = some (.ok (d, l) ρ2) → P d) →
      (∀ (o : Opd) (ρ1 ρ2 : Sts) (d : PyData) (l : List Nat) (x : V) (F1 H1 : Hp) (A1 Z1 : Ft) (xs : List PyData), P d → itemsD d = some xs → walkO b a ρ = some (.ok ⟨xs, l, isDictD d⟩ ρ2) → Go F H A F1 H1 A1 → Ok F1 H1 σ ρ2 A1 → Src F1 σ ρ2 d x → (∀ i, i ∈ l → ρ2[i]? = some (Slot.ro d) ∧ σ[i]? = some (some x) ∧ (∀ kvs, d = .dict kvs → ∀ a, x = .ref a → ∃ u, H1 a = some u ∧ isDictO u)) → Le A1 Z1 → Le Z Z1 →
        Aft G W R' F1 H1 Z1 σ (k ⟨xs, l, isDictD d⟩ ρ2) Q → Rr x H1) → tM G W RO a σ H Rr := fun P Rr hP hf => by
    refine ⟨F, A, ρ, ok, h.bind az fun o ρ1 e1 x F1 H1 A1 B1 Z1 g1 ok1 r1 le1 y1 y2 y3 h1 => ?_⟩
    rw [bnd_bnd] at h1
    obtain ⟨d, l, F2, A2, ρ2, e2, ok2, src, la, sb, nf, h2⟩ := froz_full ok1 r1 le1 y1 y2 h1
    rw [bnd_bnd] at h2
    obtain ⟨xs, ex, h2⟩ := h2.lif
    have e : walkO b a ρ = some (.ok ⟨xs, l, isDictD d⟩ ρ2) := by
      unfold walkO
      rw [bnd_run e1, bnd_run e2]
      show bnd (lif (itemsD d)) _ ρ2 = _
      rw [ex]
      rfl
    refine hf o ρ1 ρ2 d l x F2 H1 A2 Z1 xs (hP o ρ1 d l ρ2 e1 e2) ex e ?_ ok2 src (froz_ros ok1 r1 e2) (fun a z => y1 a (la a z)) y3 h2
    refine ⟨g1.ex.trans sb, g1.fz, g1.fr, fun a z => g1.nw a (by have := la a z; show A1 a + B1 a ≠ 0; omega), fun a z => ?_⟩
    by_cases q : F1 a = F a
    · have := nf a (by rw [q]; exact z)
      exact g1.nw a (by show A1 a + B1 a ≠ 0; omega)
    · exact g1.nf a q
  -- its kind
  have kind : (∀ o ρ1 d l ρ2, a ρ = some (.ok o ρ1) → froz b o ρ1 = some (.ok (d, l) ρ2) → ∃ xs, d = .list xs) ∨ (∀ o ρ1 d l ρ2, a ρ = some (.ok o ρ1) → froz b o ρ1 = some (.ok (d, l) ρ2) → ∃ xs, d = .tuple xs) ∨
      (∀ o ρ1 d l ρ2, a ρ = some (.ok o ρ1) → froz b o ρ1 = some (.ok (d, l) ρ2) → ∃ z, d = .str z) ∨ (∀ o ρ1 d l ρ2, a ρ = some (.ok o ρ1) → froz b o ρ1 = some (.ok (d, l) ρ2) → ∃ kvs, d = .dict kvs) ∨ ∀ o ρ1 d l ρ2, a ρ = some (.ok o ρ1) → froz b o ρ1 = some (.ok (d, l) ρ2) → itemsD d = none := by
    cases e1 : a ρ with
    | none => exact .inl fun _ _ _ _ _ z => nomatch z
    | some r =>
      cases r with
      | exc c d ρ1 => exact .inl fun _ _ _ _ _ z => nomatch z
      | ok o ρ1 =>
        cases e2 : froz b o ρ1 with
        | none => exact .inl fun o' ρ' d l ρ2 z z2 => by cases z; rw [e2] at z2; cases z2
        | some r =>
          cases r with
          | exc c d ρ2 => exact .inl fun o' ρ' d l ρ2 z z2 => by cases z; rw [e2] at z2; cases z2
          | ok p ρ2 =>
            obtain ⟨d, l⟩ := p
            cases d with
            | list xs => exact .inl fun o' ρ' d l ρ2 z z2 => by cases z; rw [e2] at z2; cases z2; exact ⟨_, rfl⟩
            | tuple xs => exact .inr (.inl fun o' ρ' d l ρ2 z z2 => by cases z; rw [e2] at z2; cases z2; exact ⟨_, rfl⟩)
            | str xs => exact .inr (.inr (.inl fun o' ρ' d l ρ2 z z2 => by cases z; rw [e2] at z2; cases z2; exact ⟨_, rfl⟩))
            | dict xs => exact .inr (.inr (.inr (.inl fun o' ρ' d l ρ2 z z2 => by cases z; rw [e2] at z2; cases z2; exact ⟨_, rfl⟩)))
            | none => exact .inr (.inr (.inr (.inr fun o' ρ' d l ρ2 z z2 => by cases z; rw [e2] at z2; cases z2; rfl)))
            | bool _ => exact .inr (.inr (.inr (.inr fun o' ρ' d l ρ2 z z2 => by cases z; rw [e2] at z2; cases z2; rfl)))
            | int _ => exact .inr (.inr (.inr (.inr fun o' ρ' d l ρ2 z z2 => by cases z; rw [e2] at z2; cases z2; rfl)))
  rcases kind with hk | hk | hk | hk | hk
  · refine .inl (go (fun d => ∃ xs, d = .list xs) _ hk fun o ρ1 ρ2 d l x F1 H1 A1 Z1 xs ⟨ys, ed⟩ ex e g1 ok1 src ros z1 z2 h1 => ?_)
    subst ed
    cases ex
    obtain ⟨a', vs, rfl, hr, fz⟩ := Src.dk ok1 src
    exact ⟨a', rfl, ⟨vs, .inl hr⟩, st _ (Itl X.K a') _ none F1 H1 H1 A1 Z1 ρ2 e wk_list g1 ok1 rfl ok1 src (fun i hi => ⟨_, (ros i hi).1, fun kvs q => nomatch q⟩) z1 z2 h1⟩
  · refine .inr (.inl (go (fun d => ∃ xs, d = .tuple xs) _ hk fun o ρ1 ρ2 d l x F1 H1 A1 Z1 xs ⟨ys, ed⟩ ex e g1 ok1 src ros z1 z2 h1 => ?_))
    subst ed
    cases ex
    have kx := Src.dk ok1 src
    obtain ⟨a', vs, rfl, hr, fz⟩ := id kx
    exact ⟨a', rfl, ⟨vs, .of (show H1 a' = _ from ok1.fok _ _ hr)⟩, st _ (Itt X.K a') _ none F1 H1 H1 A1 Z1 ρ2 e wk_tup g1 ok1 rfl ok1 kx (fun i hi => ⟨_, (ros i hi).1, fun kvs q => nomatch q⟩) z1 z2 h1⟩
  · refine .inr (.inr (.inl (go (fun d => ∃ z, d = .str z) _ hk fun o ρ1 ρ2 d l x F1 H1 A1 Z1 xs ⟨ys, ed⟩ ex e g1 ok1 src ros z1 z2 h1 => ?_)))
    subst ed
    cases ex
    have kx : x = .str ys := Src.dk ok1 src
    subst kx
    exact ⟨ys, rfl, st _ (Its ys) _ none F1 H1 H1 A1 Z1 ρ2 e wk_str g1 ok1 rfl ok1 trivial (fun i hi => ⟨_, (ros i hi).1, fun kvs q => nomatch q⟩) z1 z2 h1⟩
  · refine .inr (.inr (.inr (go (fun d => ∃ kvs, d = .dict kvs) _ hk fun o ρ1 ρ2 d l x F1 H1 A1 Z1 xs ⟨kvs, ed⟩ ex e g1 ok1 src ros z1 z2 h1 => ?_)))
    subst ed
    have ex' : (if allLeaf kvs then some (kvs.map (·.1)) else none) = some xs := ex
    split at ex'
    · rename_i hal
      cases ex'
      obtain ⟨a', rfl, kx⟩ := Src.dk ok1 src
      -- one dict object, whatever it is
      have main : ∀ {u : HO} {J : Obj → L2.It} {KI : Obj → Hp → Hp → L2.St → Sts → Prop} {Qr : Obj → Hp → Prop}, isDictO u → Rd H1 a' u → (∀ od, Wk (J od) (kvs.map (·.1)) (KI od)) → (∀ od {F : Hp} {H : Hp}, F = F1 → H a' = some (.frz od u) → KI od F H σ ρ2) → (∀ od H', H' a' = some (.frz od u) → R (J od) H' → Qr od H') →
          (∃ od, Qr od H1) ∨ ∃ u, H1 a' = some u ∧ Mut (some u) ∧ ∀ od, (∀ o' u', X.H_0 a' ≠ some (.frz o' u')) → Qr od (upd H1 a' (.frz od u)) := fun {u J KI Qr} hu hr hw hk hq => by
        rcases hr with hr | ⟨od, hr⟩
        · refine .inr ⟨u, hr, hu.mut, fun od hn => ?_⟩
          have ls := src_lsrc ok1 src (.inl hr) hu
          refine hq od _ upd_same (st _ (J od) (KI od) (some (a', od, u)) F1 H1 _ A1 Z1 ρ2 e (hw od) g1 ok1 ⟨rfl, hr, hu, hn, rfl, ls⟩ (ok1.rewr hu (.inl hr) (.inr ⟨od, upd_same⟩) ls) (hk od rfl upd_same) (fun i hi => ?_) z1 z2 h1)
          obtain ⟨r1, r2, _⟩ := ros i hi
          exact ⟨_, r1, fun kvs' _ => ⟨a', od, u, rfl, r2⟩⟩
        · refine .inl ⟨od, hq od _ hr (st _ (J od) (KI od) none F1 H1 H1 A1 Z1 ρ2 e (hw od) g1 ok1 rfl ok1 (hk od rfl hr) (fun i hi => ?_) z1 z2 h1)⟩
          obtain ⟨_, _, r3⟩ := ros i hi
          obtain ⟨u', hu1, hu2⟩ := r3 kvs rfl a' rfl
          rw [hr] at hu1
          exact absurd (Option.some.inj hu1).symm (hu2.not_frz _ _)
      rcases kx with ⟨ks, hr, fz⟩ | ⟨ks, hr, fz⟩
      · rcases main (J := fun od => Itk a' od ks) (KI := fun od F H _ _ => FzK F kvs ks ∧ H a' = some (.frz od (.dK ks))) (Qr := fun od H' => H' a' = some (.frz od (.dK ks)) ∧ R (Itk a' od ks) H') (.inl ⟨ks, rfl⟩) hr (fun od => wk_dict) (fun od {F H} eF eH => ⟨eF ▸ fz, eH⟩) (fun od H' eH r => ⟨eH, r⟩) with ⟨od, q1, q2⟩ | ⟨u, hu, mu, q⟩
        · exact .inl ⟨a', od, rfl, .inl ⟨ks, q1, q2⟩⟩
        · exact .inr ⟨a', u, rfl, hu, mu, fun od hn => ⟨a', od, rfl, .inl ⟨ks, (q od hn).1, (q od hn).2⟩⟩⟩
      · have e0 : kvs = [] ∧ ks = [] := by
          cases kvs with
          | nil => exact ⟨rfl, fz⟩
          | cons p kvs =>
            obtain ⟨j, z⟩ := p
            obtain ⟨qq, v, t, e, ek, _⟩ := fz
            subst ek
            unfold allLeaf at hal
            rw [List.all_cons] at hal
            obtain ⟨w, e⟩ := leaf_key (and_t hal).1
            exact (leaf_not_tup e.symm).elim
        obtain ⟨rfl, rfl⟩ := e0
        rcases main (J := fun od => Itkt a' od []) (KI := fun od F H _ _ => H a' = some (.frz od (.dT []))) (Qr := fun od H' => H' a' = some (.frz od (.dT [])) ∧ R (Itkt a' od []) H') (.inr ⟨[], rfl⟩) hr (fun od => wk_dict0) (fun od {F H} eF eH => eH) (fun od H' eH r => ⟨eH, r⟩) with ⟨od, q1, q2⟩ | ⟨u, hu, mu, q⟩
        · exact .inl ⟨a', od, rfl, .inr ⟨[], q1, q2⟩⟩
        · exact .inr ⟨a', u, rfl, hu, mu, fun od hn => ⟨a', od, rfl, .inr ⟨[], (q od hn).1, (q od hn).2⟩⟩⟩
    · cases ex'
  · refine .inl (go (fun d => itemsD d = none) _ hk fun o ρ1 ρ2 d l x F1 H1 A1 Z1 xs hn ex e g1 ok1 src ros z1 z2 h1 => ?_)
    rw [hn] at ex
    cases ex
end
end PD
end
section
/-! PD22: range, enumerate, zip. -/
namespace PD
open PySem PySem.Spec PyProof.Rows L2
variable {α β : Type}
section
variable {G : Glob} {X : Cx} {W : WX} {cx : Ctx} {E : Expr → M Vl} {tg it a b : Expr} {p pos : Pos}
theorem asInt_ok {ζ : Type} {R' : Rr β ζ} {m : M Vl} {F H : Hp} {A Z : Ft} {σ : L2.St} {ρ : Sts} {k : Int → M β} {Q : ζ → Hp → Prop} {Q1 : VK} (ok : Ok F H σ ρ A) (az : Le A Z) (h : Aft G W R' F H Z σ (bnd (asInt m) k ρ) Q)
    (step : ∀ i F1 H1 A1 Z1 ρ1, asInt m ρ = some (.ok i ρ1) → Go F H A F1 H1 A1 → Ok F1 H1 σ ρ1 A1 → Le A1 Z1 → Le Z Z1 → Aft G W R' F1 H1 Z1 σ (k i ρ1) Q → Q1 (.int i) H1) : tM G W RV m σ H Q1 := by
  have h : Aft G W R' F H Z σ (bnd (bnd m asIntK) k ρ) Q := h
  rw [bnd_bnd] at h
  refine ⟨F, A, ρ, ok, h.bind az fun v ρ1 ev x F1 H1 A1 B1 Z1 g ok1 r1 le1 z1 z2 z3 h1 => ?_⟩
  have hi : ∃ i, v.2 = .int i := by
    obtain ⟨n, d⟩ := v
    cases d with
    | int i => exact ⟨i, rfl⟩
    | _ => exact (h1 : False).elim
  obtain ⟨i, ei⟩ := hi
  have e2 : asIntK v = ret i := by unfold asIntK; rw [ei]
  obtain ⟨j, rfl, z0, h1⟩ := Aft.asK r1 h1
  have : j = i := by
    have dr := Rep.dr ok1.fok _ _ _ _ r1
    rw [ei] at dr
    exact V.int.inj dr
  subst this
  refine step j F1 H1 A1 Z1 ρ1 ?_ (g.less fun a q => by show A1 a + B1 a ≠ 0; omega) ok1 z1 z3 h1
  show bnd m asIntK ρ = _
  rw [bnd_run ev, e2]
  rfl
theorem rangeB_ok {i : Int} (h : rangeB i = true) : -(2 ^ 62) ≤ i ∧ i < 2 ^ 62 := ⟨of_decide_eq_true (and_t h).1, of_decide_eq_true (and_t h).2⟩
theorem e_range1 (hE : ∀ e, PE X e (tM G W RV (E e))) (hn : noStar [a] = true) (hg : Gl X "range") (hm : X.mg "range" = none) : WOk G W X tg (.Call (.Name "range" p) [a] [] pos) (walkR (ret 0) (asInt (E a))) := by
  obtain ⟨n1, n2⟩ := noStar_cons (X := X) hn
  refine ⟨_, pi_range1 hg hm (pa_cons (hE a) pa_nil n1) n1, fun {β ζ R' F H A Z σ ρ k Q R} ok az h st => ?_⟩
  have h : Aft G W R' F H Z σ (bnd (bnd (asInt (E a)) fun j => if rangeB 0 && rangeB j then ret (Walk.mk (rangeD 0 j) [] false) else stuck) k ρ) Q := h
  rw [bnd_bnd] at h
  refine asInt_ok ok az h fun j F1 H1 A1 Z1 ρ1 ej g ok1 z1 z2 h1 => ?_
  by_cases hb : (rangeB 0 && rangeB j) = true
  · simp only [hb, if_true] at h1
    obtain ⟨b1, b2⟩ := rangeB_ok (and_t hb).2
    refine ⟨j, rfl, b1, b2, ?_⟩
    have := st ⟨rangeD 0 j, [], false⟩ (Itr 0 (j - 0).toNat) _ none F1 H1 H1 A1 Z1 ρ1 (by
      show bnd (asInt (E a)) _ ρ = _
      rw [bnd_run ej]
      simp only [hb, if_true]
      rfl) wk_range g ok1 rfl ok1 trivial (fun i hi => nomatch hi) z1 z2 h1
    rw [Int.sub_zero] at this
    exact this
  · simp only [hb] at h1
    exact (h1 : False).elim
theorem e_range2 (hE : ∀ e, PE X e (tM G W RV (E e))) (hn2 : noStar [a, b] = true) (hg : Gl X "range") (hm : X.mg "range" = none) : WOk G W X tg (.Call (.Name "range" p) [a, b] [] pos) (walkR (asInt (E a)) (asInt (E b))) := by
  obtain ⟨n4, hn'⟩ := noStar_cons (X := X) hn2
  obtain ⟨n3, _⟩ := noStar_cons (X := X) hn'
  refine ⟨_, pi_range2 hg hm (pa_cons (hE a) (pa_cons (hE b) pa_nil n3) n4) (by rw [n4, n3]; rfl) n3, fun {β ζ R' F H A Z σ ρ k Q R} ok az h st => ?_⟩
  have h : Aft G W R' F H Z σ (bnd (bnd (asInt (E a)) fun i => bnd (asInt (E b)) fun j => if rangeB i && rangeB j then ret (Walk.mk (rangeD i j) [] false) else stuck) k ρ) Q := h
  rw [bnd_bnd] at h
  refine asInt_ok ok az h fun i F1 H1 A1 Z1 ρ1 ei g ok1 z1 z2 h1 => ?_
  rw [bnd_bnd] at h1
  refine asInt_ok ok1 z1 h1 fun j F2 H2 A2 Z2 ρ2 ej g2 ok2 w1 w2 h2 => ?_
  by_cases hb : (rangeB i && rangeB j) = true
  · simp only [hb, if_true] at h2
    obtain ⟨b1, b2⟩ := rangeB_ok (and_t hb).2
    obtain ⟨b3, b4⟩ := rangeB_ok (and_t hb).1
    refine ⟨i, j, rfl, ⟨b3, b4, b1, b2⟩, ?_⟩
    exact st ⟨rangeD i j, [], false⟩ (Itr i (j - i).toNat) _ none F2 H2 H2 A2 Z2 ρ2 (by
      show bnd (asInt (E a)) _ ρ = _
      rw [bnd_run ei, bnd_run ej]
      simp only [hb, if_true]
      rfl) wk_range (g.trans g2) ok2 rfl ok2 trivial (fun i hi => nomatch hi) w1 (fun a q => w2 a (z2 a q)) h2
  · simp only [hb] at h2
    exact (h2 : False).elim
theorem Go.lower {F H F1 H1 F2 : Hp} {A A1 B1 A2 : Ft} (g : Go F H A F1 H1 (fun a => A1 a + B1 a)) (sb : Sub F1 F2) (la : Le A2 A1) (nf : ∀ a, F2 a ≠ F1 a → A1 a ≠ 0 ∨ B1 a ≠ 0) : Go F H A F2 H1 A2 :=
  ⟨g.ex.trans sb, g.fz, g.fr, fun a z => g.nw a (by have := la a z; show A1 a + B1 a ≠ 0; omega), fun a z => by
    by_cases q : F1 a = F a
    · have := nf a (by rw [q]; exact z)
      exact g.nw a (by show A1 a + B1 a ≠ 0; omega)
    · exact g.nf a q⟩
theorem e_enum {bb : Bool} {ts : List Expr} {kk : Nat} {tp : Pos} {ma : M Opd} (ha : PE X a (tM G W RO ma)) (hn : noStar [a] = true) (hg : Gl X "enumerate") (hm : X.mg "enumerate" = none) : WOk G W X (.Tuple ts kk tp) (.Call (.Name "enumerate" p) [a] [] pos) (walkE bb ma) := by
  obtain ⟨n1, _⟩ := noStar_cons (X := X) hn
  refine ⟨_, pi_enum hg hm (pa_cons ha pa_nil n1) n1, fun {β ζ R' F H A Z σ ρ k Q R} ok az h st => ?_⟩
  have h : Aft G W R' F H Z σ (bnd (bnd ma fun x => bnd (froz bb x) fun d => match d.1 with
    | .list xs => ret (Walk.mk (enumD 0 xs) d.2 false)
    | _ => stuck) k ρ) Q := h
  rw [bnd_bnd] at h
  refine ⟨F, A, ρ, ok, h.bind az fun o ρ1 e1 x F1 H1 A1 B1 Z1 g1 ok1 r1 le1 y1 y2 y3 h1 => ?_⟩
  rw [bnd_bnd] at h1
  obtain ⟨d, l, F2, A2, ρ2, e2, ok2, src, la, sb, nf, h2⟩ := froz_full ok1 r1 le1 y1 y2 h1
  cases d with
  | list xs =>
    have ros := froz_ros ok1 r1 e2
    obtain ⟨a', vs, rfl, hr, fz⟩ := Src.dk ok2 src
    refine ⟨a', vs, rfl, .inl hr, st ⟨enumD 0 xs, l, false⟩ (Ite X.K a') _ none F2 H1 H1 A2 Z1 ρ2 ?_ wk_enum (Go.lower g1 sb la nf) ok2 rfl ok2 src (fun i hi => ⟨_, (ros i hi).1, fun kvs q => nomatch q⟩) (fun a z => y1 a (la a z)) y3 h2⟩
    unfold walkE
    rw [bnd_run e1, bnd_run e2]
    rfl
  | _ => exact (h2 : False).elim
theorem e_zip {bb cc : Bool} {ts : List Expr} {kk : Nat} {tp : Pos} {ma mb : M Opd} (ha : PE X a (tM G W RO ma)) (hb : PE X b (tM G W RO mb)) (hn : noStar [a, b] = true) (hg : Gl X "zip") (hm : X.mg "zip" = none) : WOk G W X (.Tuple ts kk tp) (.Call (.Name "zip" p) [a, b] [] pos) (walkZ bb cc ma mb) := by
  obtain ⟨n1, n2⟩ := noStar_cons (X := X) hn
  obtain ⟨n3, _⟩ := noStar_cons (X := X) n2
  refine ⟨_, RZ.pi_zipA hg hm (pa_cons ha (pa_cons hb pa_nil n3) n1) n1 (noStar_any n2), fun {β ζ R' F H A Z σ ρ k Q R} ok az h st => ?_⟩
  have h : Aft G W R' F H Z σ (bnd (bnd ma fun x => bnd mb fun y => bnd (froz bb x) fun d => bnd (froz cc y) fun e => bnd (lif (zipD d.1 e.1)) fun xs => ret (Walk.mk xs (d.2 ++ e.2) false)) k ρ) Q := h
  rw [bnd_bnd] at h
  refine ⟨F, A, ρ, ok, h.bind az fun x ρ1 e1 vx F1 H1 A1 B1 Z1 g1 ok1 r1 le1 y1 y2 y3 h1 => ?_⟩
  rw [bnd_bnd] at h1
  refine ⟨F1, A1, ρ1, ok1, h1.bind y1 fun y ρ2 e2 vy F2 H2 A2 B2 Z2 g2 ok2 r2 le2 w1 w2 w3 h2 => ?_⟩
  rw [bnd_bnd] at h2
  have apt : ∀ a, B1 a ≠ 0 → A1 a = 0 := fun a q => by have := le1 a; omega
  have live : ∀ a, B1 a ≠ 0 → H1 a ≠ none := fun a q => r1.live a q
  have r1' : RO F2 H2 σ ρ2 x vx B1 := r1.mono (g2.kp live apt)
  have sum : ∀ a, A2 a + B1 a + B2 a ≤ 1 := fun a => by
    have l1 := le1 a
    have l2 := le2 a
    by_cases q : B1 a = 0
    · omega
    · have := g2.apart live apt a q; omega
  obtain ⟨d, l, F3, A3, ρ3, e3, ok3, src3, la3, sb3, nf3, h3⟩ := froz_full ok2 r1' (fun a => by have := sum a; omega) w1 (fun a q => w3 a (y2 a q)) h2
  rw [bnd_bnd] at h3
  have r2' : RO F3 H2 σ ρ3 y vy B2 := r2.mono (kp_new sb3 nf3 fun a q => by have := sum a; omega)
  obtain ⟨e, l', F4, A4, ρ4, e4, ok4, src4, la4, sb4, nf4, h4⟩ := froz_full ok3 r2' (fun a => by
    have := sum a
    have := ok3.one a
    by_cases q : A3 a = 0
    · omega
    · have := la3 a q; omega) (fun a q => w1 a (la3 a q)) w2 h3
  rw [bnd_bnd] at h4
  obtain ⟨xs, ex, h4⟩ := h4.lif
  have s4 := (froz_same e4).1
  have ros3 := froz_ros ok2 r1' e3
  have ros4 := froz_ros ok3 r2' e4
  have gA : Go F H A F2 H2 (fun a => A2 a + (B1 a + B2 a)) := (g1.trans (g2.big (Z := fun a => A1 a + B1 a) fun a q => by show A1 a + B1 a ≠ 0; omega)).less fun a q => by
    have q' : A2 a + (B1 a + B2 a) ≠ 0 := q
    show A2 a + B2 a + (A1 a + B1 a) ≠ 0
    omega
  have gB : Go F H A F4 H2 A4 := Go.lower (A1 := A2) (B1 := fun a => B1 a + B2 a) gA (sb3.trans sb4) (fun a q => la3 a (la4 a q)) fun a z => by
    by_cases q : F3 a = F2 a
    · rcases nf4 a (by rw [q]; exact z) with r | r
      · exact .inl (la3 a r)
      · exact .inr (by show B1 a + B2 a ≠ 0; omega)
    · rcases nf3 a q with r | r
      · exact .inl r
      · exact .inr (by show B1 a + B2 a ≠ 0; omega)
  have hrun : walkZ bb cc ma mb ρ = some (.ok ⟨xs, l ++ l', false⟩ ρ4) := by
    unfold walkZ
    rw [bnd_run e1, bnd_run e2, bnd_run e3, bnd_run e4]
    show bnd (lif (zipD d e)) _ ρ4 = _
    rw [show zipD d e = some xs from ex]
    rfl
  have hro : ∀ i, i ∈ l ++ l' → ∃ d', ρ4[i]? = some (Slot.ro d') ∧ ∀ kvs, d' = .dict kvs → False := fun i hi => by
    have hnd : ∀ kvs, d ≠ .dict kvs ∧ e ≠ .dict kvs := fun kvs => by
      have ex : zipD d e = some xs := ex
      unfold zipD at ex
      split at ex
      · exact ⟨fun z => (nomatch z), fun z => (nomatch z)⟩
      · exact ⟨fun z => (nomatch z), fun z => (nomatch z)⟩
      · cases ex
    rcases List.mem_append.mp hi with q | q
    · exact ⟨_, s4.1 i _ (ros3 i q).1, fun kvs z => (hnd kvs).1 z⟩
    · exact ⟨_, (ros4 i q).1, fun kvs z => (hnd kvs).2 z⟩
  have src3' : Src F4 σ ρ4 d vx := src3.keep sb4 s4 fun _ _ _ => rfl
  have ex : zipD d e = some xs := ex
  unfold zipD at ex
  split at ex
  · cases ex
    obtain ⟨a1, vs1, rfl, hr1, fz1⟩ := Src.dk ok4 src3'
    obtain ⟨a2, vs2, rfl, hr2, fz2⟩ := Src.dk ok4 src4
    exact ⟨a1, a2, vs1, vs2, rfl, .inl ⟨.inl hr1, .inl hr2, st ⟨_, l ++ l', false⟩ (Itz X.K a1 a2) _ none F4 H2 H2 A4 Z2 ρ4 hrun wk_zip gB ok4 rfl ok4 ⟨src3', src4⟩ (fun i hi => by
      obtain ⟨d', h1, h2⟩ := hro i hi
      exact ⟨d', h1, fun kvs q => (h2 kvs q).elim⟩) (fun a q => w1 a (la3 a (la4 a q))) (fun a q => w3 a (y3 a q)) h4⟩⟩
  · cases ex
    obtain ⟨a1, vs1, rfl, hF1, fz1⟩ := Src.dk ok4 src3'
    obtain ⟨a2, vs2, rfl, hF2, fz2⟩ := Src.dk ok4 src4
    exact ⟨a1, a2, vs1, vs2, rfl, .inr ⟨.inl (rt_rd (ok4.fok _ _ hF1)), .inl (rt_rd (ok4.fok _ _ hF2)), st ⟨_, l ++ l', false⟩ (RZ.ItzT X.K a1 a2) _ none F4 H2 H2 A4 Z2 ρ4 hrun wk_zipT gB ok4 rfl ok4 ⟨src3', src4⟩ (fun i hi => by
      obtain ⟨d', h1, h2⟩ := hro i hi
      exact ⟨d', h1, fun kvs q => (h2 kvs q).elim⟩) (fun a q => w1 a (la3 a (la4 a q))) (fun a q => w3 a (y3 a q)) h4⟩⟩
  · cases ex
end
end PD
end
section
/-! PD23: targets. -/
namespace PD
open PySem PySem.Spec PyProof.Rows L2
variable {α β : Type}
/-- behind a store -/
def AftG (F H : Hp) (A B : Ft) (σ : L2.St) (ρ : Sts) (T : Nat → Prop) (r : Option (Res Unit)) (Q : L2.St → Hp → Prop) : Prop := match r with
  | some (.ok _ ρ') => ∀ σ' A', (∀ a, A' a ≤ A a + B a) → Ok F H σ' ρ' A' → σ'.length = σ.length → (∀ i : Nat, ¬ T i → σ'[i]? = σ[i]?) → (∀ (i : Nat) (d : PyData), ρ[i]? = some (Slot.ro d) → σ'[i]? = σ[i]?) → Same ρ ρ' → Q σ' H
  | _ => False
/-- the slots a store may write -/
def Tch (st : PySem.Str → Option Nat) (pr : List Nat) (i : Nat) : Prop := (∃ x, st x = some i) ∧ i ∉ pr
def gA (st : PySem.Str → Option Nat) (pr : List Nat) (tg : Expr) : TG := fun v σ H Q => ∃ F A B ρ vl, Ok F H σ ρ A ∧ Rep F H vl.1 vl.2 v B ∧ (∀ a, A a + B a ≤ 1) ∧ AftG F H A B σ ρ (Tch st pr) (asgn st pr tg vl ρ) Q
def gAs (st : PySem.Str → Option Nat) (pr : List Nat) (ts : List Expr) : TGs := fun vs σ H Q => ∃ F A B ρ k xs, Ok F H σ ρ A ∧ Reps (Rep F H k) xs vs B ∧ (∀ a, A a + B a ≤ 1) ∧ AftG F H A B σ ρ (Tch st pr) (asgns st pr ts k xs ρ) Q
structure StOk (X : Cx) (st : PySem.Str → Option Nat) : Prop where
  at_ : ∀ x i, st x = some i → X.N[i]? = some x ∧ Loc X.env.scope x ∧ (X.fn x = true ∨ X.env.scope.names.lookup x = some .local)
section
variable {X : Cx} {st : PySem.Str → Option Nat} {pr : List Nat}
theorem PG_imp {e : Expr} {t t' : TG} (h : PG X e t) (i : ∀ v σ H Q, t' v σ H Q → t v σ H Q) : PG X e t' := ⟨fun pins s σ H v u Q I r q => h.run pins s σ H v u Q I r (i v σ H Q q)⟩
theorem PGs_imp {e : List Expr} {t t' : TGs} (h : PGs X e t) (i : ∀ v σ H Q, t' v σ H Q → t v σ H Q) : PGs X e t' := ⟨fun pins s σ H v u Q I r q => h.run pins s σ H v u Q I r (i v σ H Q q)⟩
theorem PG_no {e : Expr} {t : TG} (h : ∀ v σ H Q, ¬ t v σ H Q) : PG X e t := ⟨fun pins s σ H v u Q I r q => (h _ _ _ _ q).elim⟩
theorem PGs_no {e : List Expr} {t : TGs} (h : ∀ v σ H Q, ¬ t v σ H Q) : PGs X e t := ⟨fun pins s σ H v u Q I r q => (h _ _ _ _ q).elim⟩
/-- a name is stored -/
theorem store_ok' {F H : Hp} {A B : Ft} {σ : L2.St} {ρ : Sts} {i : Nat} {vl : Vl} {v : V} {Q : L2.St → Hp → Prop} {x : PySem.Str} (ok : Ok F H σ ρ A) (r : Rep F H vl.1 vl.2 v B) (le : ∀ a, A a + B a ≤ 1) (hx : st x = some i) (h : AftG F H A B σ ρ (Tch st pr) (store pr i vl ρ) Q) : Q (σ.set i (some v)) H := by
  unfold store at h
  split at h
  · exact (h : False).elim
  · rename_i hp
    have npr : i ∉ pr := fun z => hp (by unfold prots; exact List.contains_iff_mem.mpr z)
    cases e : ρ[i]? with
    | none => simp only [e] at h; exact (h : False).elim
    | some s =>
      have nro : ∀ d, s ≠ .ro d := fun d z => by subst z; simp only [e] at h; exact h
      have h' : AftG F H A B σ ρ (Tch st pr) (some (.ok () (ρ.set i (.val vl.1 vl.2)))) Q := by
        cases s with
        | ro d => exact (nro d rfl).elim
        | dead => simp only [e] at h; exact h
        | val k d => simp only [e] at h; exact h
      obtain ⟨o, C, D, e1, g1, g2, g3⟩ := RepS.focus ok.rep e
      have hlt : i < σ.length := (List.getElem?_eq_some_iff.mp e1).1
      refine h' (σ.set i (some v)) (fun a => B a + D a) (fun a => by rw [g2 a]; show B a + D a ≤ _; omega) ⟨ok.fok, ?_, fun a => ?_⟩ List.length_set (fun j hj => ?_) (fun j d hj => ?_) (.set fun d q => nro d (by rw [e] at q; exact Option.some.inj q))
      · exact g3 F H (.val vl.1 vl.2) (some v) B _ ⟨Sub.refl F, fun _ _ => rfl, fun _ _ f => f⟩ ⟨v, rfl, r⟩ fun _ => rfl
      · have := le a
        rw [g2 a] at this
        show B a + D a ≤ 1
        omega
      · have : i ≠ j := fun z => hj (z ▸ ⟨⟨x, hx⟩, npr⟩)
        rw [List.getElem?_set_ne this]
      · have : i ≠ j := fun z => by
          subst z
          rw [e] at hj
          exact nro d (Option.some.inj hj)
        rw [List.getElem?_set_ne this]
theorem tup_parts {F H : Hp} {k : Nat} {xs : List PyData} {v : V} {B : Ft} (fk : FOk F H) (r : Rep F H k (.tuple xs) v B) : ∃ a vs, v = .ref a ∧ H a = some (.tup vs) ∧ vs.length = xs.length ∧ Reps (Rep F H (k - 1)) xs vs B := by
  cases k with
  | zero =>
    obtain ⟨⟨a, vs, e, f, w⟩, z⟩ := r
    exact ⟨a, vs, e, fk _ _ f, w.len, reps0_iff.mpr ⟨w, z⟩⟩
  | succ k =>
    obtain ⟨a, vs, e, f, w⟩ := r
    exact ⟨a, vs, e, fk _ _ f, (Reps.drs (fun _ _ _ r => Rep.dr fk _ _ _ _ r) w).len, w⟩
theorem asgns_len : ∀ {ts : List Expr} {k : Nat} {xs : List PyData} {ρ ρ' : Sts} {u : Unit}, asgns st pr ts k xs ρ = some (.ok u ρ') → xs.length = ts.length
  | [], _, [], _, _, _, _ => rfl
  | [], _, _ :: _, _, _, _, h => by cases h
  | _ :: _, _, [], _, _, _, h => by cases h
  | t :: ts, k, x :: xs, ρ, ρ', u, h => by
    obtain ⟨a, ρ1, e1, e2⟩ := bnd_ok (m := asgn st pr t (k, x)) (k := fun _ => asgns st pr ts k xs) h
    rw [List.length_cons, List.length_cons, asgns_len e2]
theorem noStar_assign {env : Env} : ∀ {ts : List Expr}, noStar ts = true → (assignEach ts env).length = ts.length ∧ (assignEach ts env).findIdx? (·.1) = none ∧ (assignEach ts env).map (·.2) = ts.map fun t => assign t env
  | [], _ => ⟨rfl, rfl, rfl⟩
  | t :: ts, h => by
    have h2 : noStar ts = true := by cases t <;> first | exact h | cases h
    obtain ⟨i1, i2, i3⟩ := noStar_assign (env := env) h2
    have e : assignEach (t :: ts) env = (false, assign t env) :: assignEach ts env := by cases t <;> first | rfl | cases h
    rw [e]
    refine ⟨by rw [List.length_cons, i1]; rfl, ?_, by rw [List.map_cons, List.map_cons, i3]⟩
    rw [List.findIdx?_cons, i2]
    rfl
mutual
theorem g_tgt (hc : X.calm = true) (hN : X.N.Nodup) (so : StOk X st) : ∀ tg : Expr, PG X tg (gA st pr tg) := fun tg => by
  cases tg with
  | Name x p =>
    cases hx : st x with
    | none =>
      refine PG_no fun v σ H Q ⟨F, A, B, ρ, vl, ok, r, le, h⟩ => ?_
      have h : AftG F H A B σ ρ (Tch st pr) ((match st x with
        | some i => store pr i vl
        | none => stuck) ρ) Q := h
      rw [hx] at h
      exact h
    | some i =>
      obtain ⟨h1, h2, h3⟩ := so.at_ x i hx
      refine PG_imp (pg_name hN h1 h2 h3) fun v σ H Q ⟨F, A, B, ρ, vl, ok, r, le, h⟩ => ?_
      have h : AftG F H A B σ ρ (Tch st pr) ((match st x with
        | some i => store pr i vl
        | none => stuck) ρ) Q := h
      rw [hx] at h
      exact store_ok' ok r le hx h
  | Tuple ts k p =>
    by_cases hn : noStar ts = true
    · obtain ⟨i1, i2, i3⟩ := noStar_assign (env := X.env) hn
      refine PG_imp (pg_tup (n := ts.length) hc (g_tgts hc hN so ts hn) i1 i2) fun v σ H Q ⟨F, A, B, ρ, vl, ok, r, le, h⟩ => ?_
      have h : AftG F H A B σ ρ (Tch st pr) ((match vl.2 with
        | .tuple xs => if noStar ts = true then asgns st pr ts (vl.1 - 1) xs else stuck
        | _ => stuck) ρ) Q := h
      obtain ⟨n, d⟩ := vl
      cases d with
      | tuple xs =>
        simp only [hn, if_true] at h
        obtain ⟨a, vs, e, hH, hl, w⟩ := tup_parts ok.fok r
        have len : xs.length = ts.length := by
          cases q : asgns st pr ts (n - 1) xs ρ with
          | none => rw [q] at h; exact (h : False).elim
          | some rr =>
            cases rr with
            | exc c d ρ' => rw [q] at h; exact (h : False).elim
            | ok u ρ' => exact asgns_len q
        exact ⟨a, vs, e, .of hH, by omega, F, A, B, ρ, n - 1, xs, ok, w, le, h⟩
      | _ => exact (h : False).elim
    · refine PG_no fun v σ H Q ⟨F, A, B, ρ, vl, ok, r, le, h⟩ => ?_
      have h : AftG F H A B σ ρ (Tch st pr) ((match vl.2 with
        | .tuple xs => if noStar ts = true then asgns st pr ts (vl.1 - 1) xs else stuck
        | _ => stuck) ρ) Q := h
      obtain ⟨n, d⟩ := vl
      cases d with
      | tuple xs => simp only [hn] at h; exact h
      | _ => exact (h : False).elim
  | _ => exact PG_no fun v σ H Q ⟨F, A, B, ρ, vl, ok, r, le, h⟩ => h
theorem g_tgts (hc : X.calm = true) (hN : X.N.Nodup) (so : StOk X st) : ∀ ts : List Expr, noStar ts = true → PGs X ts (gAs st pr ts)
  | [], _ => PGs_imp pgs_nil fun v σ H Q ⟨F, A, B, ρ, k, xs, ok, r, le, h⟩ => by
    cases xs with
    | nil =>
      obtain ⟨e, z⟩ := r
      exact ⟨e, h σ A (fun a => by omega) ok rfl (fun _ _ => rfl) (fun _ _ _ => rfl) (.refl ρ)⟩
    | cons _ _ => exact (h : False).elim
  | t :: ts, hn => by
    have h2 : noStar ts = true := by cases t <;> first | exact hn | cases hn
    have hs : (assignEach (t :: ts) X.env).map (·.2) = assign t X.env :: (assignEach ts X.env).map (·.2) := by cases t <;> first | rfl | cases hn
    refine PGs_imp (pgs_cons (g_tgt hc hN so t) (g_tgts hc hN so ts h2) hs) fun vv σ H Q ⟨F, A, B, ρ, k, xs, ok, r, le, h⟩ => ?_
    cases xs with
    | nil => exact (h : False).elim
    | cons x xs =>
      obtain ⟨v, vr, B1, B2, e, r1, r2, s⟩ := r
      refine ⟨v, vr, e, F, A, B1, ρ, (k, x), ok, r1, fun a => by have := le a; rw [s a] at this; omega, ?_⟩
      have h : AftG F H A B σ ρ (Tch st pr) (bnd (asgn st pr t (k, x)) (fun _ => asgns st pr ts k xs) ρ) Q := h
      unfold bnd at h
      cases e1 : asgn st pr t (k, x) ρ with
      | none => rw [e1] at h; exact (h : False).elim
      | some rr =>
        cases rr with
        | exc c d ρ' => rw [e1] at h; exact (h : False).elim
        | ok u ρ1 =>
          rw [e1] at h
          intro σ1 A1 l1 ok1 len1 t1 k1 sm1
          refine ⟨F, A1, B2, ρ1, k, xs, ok1, r2, fun a => by have := le a; rw [s a] at this; have := l1 a; omega, ?_⟩
          have h : AftG F H A B σ ρ (Tch st pr) (asgns st pr ts k xs ρ1) Q := h
          cases e2 : asgns st pr ts k xs ρ1 with
          | none => rw [e2] at h; exact (h : False).elim
          | some rr =>
            cases rr with
            | exc c d ρ' => rw [e2] at h; exact (h : False).elim
            | ok u ρ2 =>
              rw [e2] at h
              intro σ2 A2 l2 ok2 len2 t2 k2 sm2
              exact h σ2 A2 (fun a => by have := l1 a; have := l2 a; rw [s a]; omega) ok2 (len2.trans len1) (fun i hi => (t2 i hi).trans (t1 i hi)) (fun i d hi => (k2 i d (sm1.1 i d hi)).trans (k1 i d hi)) (sm1.trans sm2)
end
end
end PD
end
section
/-! PD24: blocks. -/
namespace PD
open PySem PySem.Spec PyProof.Rows L2
variable {α β : Type}
theorem wipe_out {σ : L2.St} : ∀ {vs : List Nat} {i : Nat}, i ∉ vs → (wipe σ vs)[i]? = σ[i]?
  | [], _, _ => rfl
  | v :: vs, i, h => by
    have h' : i ≠ v ∧ i ∉ vs := by simpa [not_or] using h
    unfold wipe
    rw [List.getElem?_set_ne (Ne.symm h'.1)]
    exact wipe_out h'.2
theorem wipe_in {σ : L2.St} : ∀ {vs : List Nat} {i : Nat}, i ∈ vs → (wipe σ vs)[i]? = if i < σ.length then some none else none
  | v :: vs, i, h => by
    unfold wipe
    by_cases q : v = i
    · subst q
      by_cases lt : v < σ.length
      · rw [if_pos lt, List.getElem?_set_self (by rw [wipe_length]; exact lt)]
      · rw [if_neg lt, List.getElem?_eq_none (by rw [List.length_set, wipe_length]; omega)]
    · rw [List.getElem?_set_ne q]
      exact wipe_in ((List.mem_cons.mp h).resolve_left fun e => q e.symm)
theorem wipe_ext {σ σ' : L2.St} {vs : List Nat} (hl : σ'.length = σ.length) (h : ∀ i, i ∉ vs → σ'[i]? = σ[i]?) : wipe σ' vs = wipe σ vs := by
  apply List.ext_getElem?
  intro i
  by_cases q : i ∈ vs
  · rw [wipe_in q, wipe_in q, hl]
  · rw [wipe_out q, wipe_out q, h i q]
theorem kill_ok {F H : Hp} {σ : L2.St} {ρ : Sts} {A : Ft} (ok : Ok F H σ ρ A) : ∀ vs : List Nat, ∃ A', Ok F H (wipe σ vs) (killS ρ vs) A' ∧ ∀ a, A' a ≤ A a
  | [] => ⟨A, ok, fun _ => Nat.le_refl _⟩
  | v :: vs => by
    obtain ⟨A', ok', le⟩ := kill_ok ok vs
    show ∃ A'', Ok F H ((wipe σ vs).set v none) ((killS ρ vs).set v .dead) A'' ∧ _
    cases e : (killS ρ vs)[v]? with
    | none =>
      have l := RepS.len ok'.rep
      have ge : (killS ρ vs).length ≤ v := List.getElem?_eq_none_iff.mp e
      rw [List.set_eq_of_length_le ge, List.set_eq_of_length_le (by omega)]
      exact ⟨A', ok', le⟩
    | some s =>
      obtain ⟨o, B, C, e1, g1, g2, g3⟩ := RepS.focus ok'.rep e
      refine ⟨C, ⟨ok'.fok, g3 F H .dead none (fun _ => 0) C ⟨Sub.refl F, fun _ _ => rfl, fun _ _ f => f⟩ (fun _ => rfl) (fun a => by show C a = 0 + C a; omega), fun a => by have := ok'.one a; rw [g2 a] at this; omega⟩, fun a => by have := le a; rw [g2 a] at this; omega⟩
/-- the values of the own slots come back -/
def backV (σ τ : L2.St) : List Nat → L2.St
  | [] => τ
  | i :: r => match σ[i]? with
    | some o => (backV σ τ r).set i o
    | none => backV σ τ r
theorem backV_len {σ τ : L2.St} : ∀ l, (backV σ τ l).length = τ.length
  | [] => rfl
  | i :: r => by
    unfold backV
    split
    · rw [List.length_set, backV_len r]
    · exact backV_len r
theorem backV_get {σ τ : L2.St} (hl : τ.length = σ.length) : ∀ {l : List Nat} {i : Nat}, (i ∈ l → (backV σ τ l)[i]? = σ[i]?) ∧ (i ∉ l → (backV σ τ l)[i]? = τ[i]?)
  | [], i => ⟨fun h => (nomatch h), fun _ => rfl⟩
  | j :: l, i => by
    obtain ⟨h1, h2⟩ := backV_get hl (l := l) (i := i)
    unfold backV
    cases e : σ[j]? with
    | none =>
      refine ⟨fun h => ?_, fun h => h2 fun z => h (List.mem_cons_of_mem _ z)⟩
      by_cases q : i ∈ l
      · exact h1 q
      · have : i = j := (List.mem_cons.mp h).resolve_right q
        subst this
        show (backV σ τ l)[i]? = σ[i]?
        rw [h2 q, e]
        exact List.getElem?_eq_none (by rw [hl]; exact List.getElem?_eq_none_iff.mp e)
    | some o =>
      show (i ∈ j :: l → ((backV σ τ l).set j o)[i]? = σ[i]?) ∧ (i ∉ j :: l → ((backV σ τ l).set j o)[i]? = τ[i]?)
      by_cases q : j = i
      · subst q
        refine ⟨fun _ => ?_, fun h => absurd (List.mem_cons_self ..) h⟩
        rw [List.getElem?_set_self (by rw [backV_len, hl]; exact (List.getElem?_eq_some_iff.mp e).1), e]
      · rw [List.getElem?_set_ne q]
        exact ⟨fun h => h1 ((List.mem_cons.mp h).resolve_left fun e => q e.symm), fun h => h2 fun z => h (List.mem_cons_of_mem _ z)⟩
theorem backV_wipe (σ : L2.St) (vs : List Nat) : backV σ (wipe σ vs) vs = σ := by
  apply List.ext_getElem?
  intro i
  have h := backV_get (σ := σ) (τ := wipe σ vs) (wipe_length σ vs) (l := vs) (i := i)
  by_cases q : i ∈ vs
  · exact h.1 q
  · rw [h.2 q, wipe_out q]
/-- a plain slot stands for the same later -/
theorem plain_slot {F H F' H' : Hp} {s : Slot} {o : Option V} {B : Ft} (sb : Sub F F') (hp : (match s with
    | .dead => true
    | .val 0 _ => true
    | .val _ d => imm d
    | _ => false) = true) (r : RepSl F H s o B) : RepSl F' H' s o (fun _ => 0) := by
  cases s with
  | dead => exact fun _ => rfl
  | ro d => cases hp
  | val k d =>
    obtain ⟨x, e, r⟩ := r
    cases k with
    | zero => exact ⟨x, e, Fz.mono sb _ _ r.1, fun _ => rfl⟩
    | succ k => exact ⟨x, e, Fz.rep_imm _ _ _ hp (Fz.mono sb _ _ (Rep.fz_imm _ _ _ _ hp r).1)⟩
theorem back_ok {F H F' H' : Hp} {σ τ : L2.St} {ρ ρe : Sts} {A A' : Ft} (ok : Ok F H σ ρ A) (sb : Sub F F') (ok' : Ok F' H' τ ρe A') (hl : τ.length = σ.length) : ∀ vs : List Nat, plainS ρ vs = true → ∃ A'', Ok F' H' (backV σ τ vs) (backS ρ ρe vs) A'' ∧ ∀ a, A'' a ≤ A' a
  | [], _ => ⟨A', ok', fun _ => Nat.le_refl _⟩
  | v :: vs, hp => by
    have hp' := Bool.and_eq_true_iff.mp (show ((match ρ[v]? with
      | some .dead => true
      | some (.val 0 _) => true
      | some (.val _ d) => imm d
      | _ => false) && plainS ρ vs) = true from hp)
    obtain ⟨A1, ok1, le1⟩ := back_ok ok sb ok' hl vs hp'.2
    cases e : ρ[v]? with
    | none => rw [e] at hp'; exact absurd hp'.1 (by decide)
    | some s =>
      obtain ⟨o, B, C, e1, g1, _, _⟩ := RepS.focus ok.rep e
      unfold backS backV
      rw [e, e1]
      show ∃ A'', Ok F' H' ((backV σ τ vs).set v o) ((backS ρ ρe vs).set v s) A'' ∧ _
      have ps : RepSl F' H' s o (fun _ => 0) := plain_slot sb (by
        have := hp'.1
        rw [e] at this
        cases s with
        | dead => rfl
        | ro d => exact Bool.noConfusion this
        | val k d => cases k <;> exact this) g1
      cases e2 : (backS ρ ρe vs)[v]? with
      | none =>
        have l := RepS.len ok1.rep
        have ge : (backS ρ ρe vs).length ≤ v := List.getElem?_eq_none_iff.mp e2
        rw [List.set_eq_of_length_le ge, List.set_eq_of_length_le (by omega)]
        exact ⟨A1, ok1, le1⟩
      | some s2 =>
        obtain ⟨o2, B2, C2, f1, f2, f3, f4⟩ := RepS.focus ok1.rep e2
        refine ⟨C2, ⟨ok1.fok, f4 F' H' s o (fun _ => 0) C2 ⟨Sub.refl F', fun _ _ => rfl, fun _ _ f => f⟩ ps (fun a => by show C2 a = 0 + C2 a; omega), fun a => by have := ok1.one a; rw [f3 a] at this; omega⟩, fun a => by have := le1 a; rw [f3 a] at this; omega⟩
/-- behind the walk -/
theorem unro_ok {F H : Hp} {σ : L2.St} : ∀ {l : List Nat} {ρ ρ' : Sts} {A : Ft}, Ok F H σ ρ A → (∀ i, i ∈ l → ∀ kvs, ρ[i]? = some (Slot.ro (.dict kvs)) → ∃ a u, σ[i]? = some (some (.ref a)) ∧ H a = some u ∧ isDictO u) → unroS ρ l = some ρ' → Ok F H σ ρ' A
  | [], ρ, ρ', A, ok, _, h => by cases h; exact ok
  | i :: l, ρ, ρ', A, ok, hd, h => by
    unfold unroS at h
    split at h
    · rename_i d e
      obtain ⟨o, B, C, e1, g1, g2, g3⟩ := RepS.focus ok.rep e
      obtain ⟨x, rfl, rr⟩ := g1
      have r1 : Rep F H 1 d x B := by
        cases d with
        | list xs =>
          obtain ⟨a, vs, ea, f, m, w, s⟩ := rr
          exact ⟨a, vs, fun _ => 0, ea, f, m, reps0_of w, fun b => by rw [s b]; rfl⟩
        | dict kvs =>
          obtain ⟨a', u, q1, q2, q3⟩ := hd i (List.mem_cons_self ..) kvs e
          rw [e1] at q1
          cases q1
          obtain ⟨a, ea, m, w, s⟩ := rr
          cases ea
          refine ⟨a', fun _ => 0, rfl, m, ?_, fun b => by rw [s b]; rfl⟩
          rcases w with ⟨ks, f, w⟩ | ⟨ks, f, w⟩
          · have := rd_inj f (.inl q2) (fun _ _ z => nomatch z) q3.not_frz
            subst this
            exact .inl ⟨ks, q2, repsK_iff.mpr ⟨(fzK_iff.mp w).1, reps0_of (fzK_iff.mp w).2⟩⟩
          · have := rd_inj f (.inl q2) (fun _ _ z => nomatch z) q3.not_frz
            subst this
            exact .inr ⟨ks, q2, repsT_iff.mpr ⟨(fzT_iff.mp w).1, reps0_of (fzT_iff.mp w).2⟩⟩
        | tuple xs =>
          obtain ⟨⟨a, vs, ea, f, w⟩, z⟩ := rr
          exact ⟨a, vs, ea, f, reps0_iff.mpr ⟨w, z⟩⟩
        | none => exact rr
        | bool _ => exact rr
        | int _ => exact rr
        | str _ => exact rr
      have rep := g3 F H (.val 1 d) (some x) B A ⟨Sub.refl F, fun _ _ => rfl, fun _ _ f => f⟩ ⟨x, rfl, r1⟩ g2
      rw [set_self e1] at rep
      refine unro_ok ⟨ok.fok, rep, ok.one⟩ (fun j hj kvs ej => ?_) h
      by_cases q : i = j
      · subst q
        rw [List.getElem?_set_self (List.getElem?_eq_some_iff.mp e).1] at ej
        cases ej
      · rw [List.getElem?_set_ne q] at ej
        exact hd j (List.mem_cons_of_mem _ hj) kvs ej
    · cases h
/-- what unlocking and unwalking ask -/
theorem ro_exact {X : Cx} {σ σ' : L2.St} {ρ1 ρ2 : Sts} {W : Walk} {lk : Lk} {H : Hp} (ro : RoOk σ ρ1 W lk) (sm : Same ρ1 ρ2) (ks : ∀ (i : Nat) (d : PyData), ρ1[i]? = some (Slot.ro d) → σ'[i]? = σ[i]?) (u : UL X H lk) : ∀ i, i ∈ W.ro → ∀ kvs, ρ2[i]? = some (Slot.ro (.dict kvs)) → ∃ a u, σ'[i]? = some (some (.ref a)) ∧ ul lk H a = some u ∧ isDictO u := fun i hi kvs e => by
  obtain ⟨d, h1, h2⟩ := ro i hi
  have := sm.1 i d h1
  rw [e] at this
  cases this
  obtain ⟨a, od, u', rfl, h3⟩ := h2 kvs rfl
  exact ⟨a, u', (ks i _ h1).trans h3, upd_same, u.2.1⟩
theorem RepVs.free {F H : Hp} : ∀ {vs : List Vl} {xs : List V} {A : Ft}, RepVs F H vs xs A → ∀ a, A a ≠ 0 → F a = none
  | [], _, _, h, a, z => absurd (h.2 a) z
  | v :: vs, _, A, ⟨x, r, B, C, e, h1, h2, h3⟩, a, z => by
    by_cases hb : B a = 0
    · exact RepVs.free h2 a (by rw [h3 a] at z; omega)
    · exact Rep.free _ _ _ _ h1 a hb
theorem RepVs.app {F H : Hp} {ws : List Vl} {ys : List V} {B : Ft} (h' : RepVs F H ws ys B) : ∀ {vs : List Vl} {xs : List V} {A : Ft}, RepVs F H vs xs A → RepVs F H (vs ++ ws) (xs ++ ys) (fun a => A a + B a)
  | [], _, A, ⟨e, z⟩ => by
    subst e
    have : (fun a => A a + B a) = B := funext fun a => by rw [z a]; omega
    rw [this]
    exact h'
  | v :: vs, _, A, ⟨x, r, C, D, e, h1, h2, h3⟩ => by subst e; exact ⟨x, _, C, _, rfl, h1, RepVs.app h' h2, fun a => by show A a + B a = C a + (D a + B a); rw [h3 a]; omega⟩
/-- what lies in a slot is not beside -/
theorem LSrc.apart {F H : Hp} {σ : L2.St} {ρ : Sts} {A B : Ft} {d : Addr} {u : HO} (ls : LSrc F σ ρ d u) (ok : Ok F H σ ρ A) (le : ∀ a, A a + B a ≤ 1) (fr : ∀ a, B a ≠ 0 → F a = none) : B d = 0 := by
  rcases ls with l | ⟨l, i, kvs, h1, h2⟩
  · by_cases q : B d = 0
    · exact q
    · have := fr d q
      rw [l] at this; cases this
  · obtain ⟨o, C, D, e1, g, g2, _⟩ := RepS.focus ok.rep h1
    obtain ⟨y, rfl, ry⟩ := g
    rw [h2] at e1; cases e1
    obtain ⟨a, e, fa, rr, s⟩ := ry
    cases e
    have := le d
    rw [g2 d, s d, sg_same] at this
    omega
end PD
end
section
/-! PD25: list comprehensions. -/
namespace PD
open PySem PySem.Spec PyProof.Rows L2
variable {α β : Type}
abbrev W0 : WX := fun _ _ _ _ => False
theorem Ok.side {F H : Hp} {σ : L2.St} {ρ : Sts} {A : Ft} {D : Addr} {o : HO} (ok : Ok F H σ ρ A) (ad : A D = 0) (fd : F D = none) : Ok F (upd H D o) σ ρ A :=
  ⟨fun a u e => rt_keep (upd_ne fun z => by rw [z, fd] at e; cases e) (ok.fok a u e), RepS.mono ⟨Sub.refl F, fun a z => upd_ne fun e => z (e ▸ ad), fun a z f => f⟩ ok.rep, ok.one⟩
theorem Go.side {F H F' H' : Hp} {A A' Z : Ft} {D : Addr} {o : HO} (g : Go F H A F' H' A') (le : Le A Z) (zd : Z D ≠ 0) (nf : ∀ x u, H D ≠ some (.frz x u)) : Go F H Z F' (upd H' D o) (fun a => A' a + Z a) := by
  have b := g.big le
  exact ⟨b.ex, fun a x u e => (upd_ne fun z => by rw [z] at e; exact nf _ _ e).trans (b.fz a x u e), fun a z n => (upd_ne fun e => zd (by rw [← e]; exact z)).trans (b.fr a z n), b.nw, b.nf⟩
theorem RepVs.side {F H : Hp} {vs : List Vl} {xs : List V} {B : Ft} {D : Addr} {o : HO} (r : RepVs F H vs xs B) (bd : B D = 0) : RepVs F (upd H D o) vs xs B :=
  RepVs.mono ⟨Sub.refl F, fun a z => upd_ne fun e => z (e ▸ bd), fun a z f => f⟩ r
def NoRo (vs : List Nat) (ρ : Sts) : Prop := ∀ i, i ∈ vs → ∀ d, ρ[i]? ≠ some (Slot.ro d)
/-- what holds at a turn's start -/
structure LcI (F1 Hl : Hp) (Z1 : Ft) (σw : L2.St) (vs : List Nat) (KI : Hp → Hp → L2.St → Sts → Prop) (D : Addr) (vsi : List Vl) (ρ : Sts) (H : Hp) : Prop where
  mk' :: ex : ∃ (F : Hp) (A B Z : Ft) (acc : List V), Ok F H σw ρ A ∧ KI F H σw ρ ∧ RepVs F H vsi acc B ∧ (∀ a, A a + B a ≤ 1) ∧ A D = 0 ∧ B D = 0 ∧ F D = none ∧ H D = some (.lst acc) ∧ Go F1 Hl Z1 F H Z ∧ Le A Z ∧ Le B Z ∧ Z D ≠ 0 ∧ NoRo vs ρ
/-- a turn's end -/
theorem turn_end {J : L2.It} {xs : List PyData} {KI : Hp → Hp → L2.St → Sts → Prop} (wk : Wk J xs KI) {F1 Hl F H F4 H4 : Hp} {Z1 A B Z A4 C : Ft} {σw σ4 : L2.St} {vs : List Nat} {D : Addr} {vsi v1 : List Vl} {ρ ρ4 : Sts} {acc ys : List V}
    (ok : Ok F H σw ρ A) (ki : KI F H σw ρ) (rv : RepVs F H vsi acc B) (le : ∀ a, A a + B a ≤ 1) (ad : A D = 0) (bd : B D = 0) (fd : F D = none) (hd : H D = some (.lst acc)) (g0 : Go F1 Hl Z1 F H Z) (az : Le A Z) (bz : Le B Z) (zd : Z D ≠ 0) (nr : NoRo vs ρ)
    (g : Go F H A F4 H4 (fun a => A4 a + C a)) (ok4 : Ok F4 H4 σ4 ρ4 A4) (nw : RepVs F4 H4 v1 ys C) (le4 : ∀ a, A4 a + C a ≤ 1) (hw : wipe σ4 vs = σw) (sm : Same ρ ρ4) :
    H4 D = some (.lst acc) ∧ LcI F1 Hl Z1 σw vs KI D (vsi ++ v1) (killS ρ4 vs) (upd H4 D (.lst (acc ++ ys))) := by
  have h4 : H4 D = some (.lst acc) := (g.fr D ad (by rw [hd]; exact fun e => nomatch e)).trans hd
  have dz : A4 D + C D = 0 := by
    by_cases q : A4 D + C D = 0
    · exact q
    · rcases g.nw D q with z | z
      · exact absurd ad z
      · rw [hd] at z; cases z
  have f4 : F4 D = none := by
    by_cases q : F4 D = F D
    · rw [q, fd]
    · rcases g.nf D q with z | z
      · exact absurd ad z
      · rw [hd] at z; cases z
  have ap : ∀ a, B a ≠ 0 → A a = 0 := fun a z => by have := le a; omega
  have rv4 := RepVs.mono (g.kp (fun a z => RepVs.live rv a z) ap) rv
  have apart : ∀ a, B a ≠ 0 → A4 a + C a = 0 := g.apart (fun a z => RepVs.live rv a z) ap
  obtain ⟨A5, ok5, le5⟩ := kill_ok ok4 vs
  rw [hw] at ok5
  have gg : Go F H Z F4 (upd H4 D (.lst (acc ++ ys))) (fun a => (A4 a + C a) + Z a) := g.side az zd fun x u e => by rw [hd] at e; cases e
  obtain ⟨k1, k2, k3⟩ := killS_get (ρ := ρ4) (l := vs)
  have sm' : Same ρ (killS ρ4 vs) := ⟨fun i d e => by
    have : i ∉ vs := fun z => nr i z d e
    rw [k1 i this]
    exact sm.1 i d e, k2.trans sm.2⟩
  refine ⟨h4, ⟨F4, A5, fun a => B a + C a, fun a => (A4 a + C a) + Z a, acc ++ ys, ok5.side (by have := le5 D; omega) f4, wk.keep _ _ _ _ _ _ _ _ _ _ ki gg sm' fun _ _ _ => rfl, (RepVs.app nw rv4).side (by show B D + C D = 0; omega), fun a => ?_, by have := le5 D; omega, by show B D + C D = 0; omega, f4, upd_same, g0.trans gg, fun a z => ?_, fun a z => ?_, ?_, k3⟩⟩
  · show A5 a + (B a + C a) ≤ 1
    have h1 := le5 a
    have h2 := le4 a
    by_cases q : B a = 0
    · omega
    · have := apart a q
      have := le a
      omega
  · show A4 a + C a + Z a ≠ 0
    have := le5 a
    omega
  · show A4 a + C a + Z a ≠ 0
    have z : B a + C a ≠ 0 := z
    by_cases q : B a = 0
    · omega
    · have := bz a q
      omega
  · show A4 D + C D + Z D ≠ 0
    omega
/-- the block's start -/
theorem lc_start {J : L2.It} {xs : List PyData} {KI : Hp → Hp → L2.St → Sts → Prop} (wk : Wk J xs KI) {F1 Hl : Hp} {A1 Z1 : Ft} {σ : L2.St} {vs : List Nat} {D : Addr} {ρ1 : Sts} (ok : Ok F1 Hl σ ρ1 A1) (ki : KI F1 Hl σ ρ1) (az : Le A1 Z1) (hp : plainS ρ1 vs = true) (hD : Hl D = none) :
    LcI F1 Hl Z1 (wipe σ vs) vs KI D [] (killS ρ1 vs) (upd Hl D (.lst [])) := by
  obtain ⟨A0, ok0, le0⟩ := kill_ok ok vs
  obtain ⟨k1, k2, k3⟩ := killS_get (ρ := ρ1) (l := vs)
  have fd : F1 D = none := ok.fok.free hD
  have ad : A0 D = 0 := by
    by_cases q : A0 D = 0
    · exact q
    · exact absurd hD (RepS.live ok0.rep D q)
  have g : Go F1 Hl Z1 F1 (upd Hl D (.lst [])) (fun a => sg D a + Z1 a) := (Go.new hD).big fun a z => absurd rfl z
  have nr : NoRo vs ρ1 := fun i hi d e => plainS_not hp i hi d e
  refine ⟨F1, A0, fun _ => 0, _, [], ok0.side ad fd, wk.keep _ _ _ _ _ _ _ _ _ _ ki g ⟨fun i d e => by rw [k1 i fun z => nr i z d e]; exact e, k2⟩ fun i d e => wipe_out fun z => nr i z d e, ⟨rfl, fun _ => rfl⟩, fun a => by have := ok0.one a; show A0 a + 0 ≤ 1; omega, ad, rfl, fd, upd_same, g, fun a z => ?_, fun a z => absurd rfl z, ?_, k3⟩
  · show sg D a + Z1 a ≠ 0
    have := az a (by have := le0 a; omega)
    omega
  · show sg D D + Z1 D ≠ 0
    rw [sg_same]
    omega
/-- the block as the evaluator runs it -/
def lcBody (tg : PyData → M Unit) (c : M Bool) (em : M Vl) (x : PyData) : M (List Vl) := bnd (tg x) fun _ => bnd c fun b => if b = true then bnd em fun v => ret [v] else ret []
theorem blk_parts {W : Walk} {own : List Nat} {body : PyData → M (List β)} {fin : List β → M Vl} {ρ : Sts} (h : bnd (inBlock own (compM own body W.xs)) (fun vs => bnd (unwalk W) fun _ => fin vs) ρ ≠ none) :
    ∃ all ρE ρ2, plainS ρ own = true ∧ compM own body W.xs (killS ρ own) = some (.ok all ρE) ∧ unroS (backS ρ ρE own) W.ro = some ρ2 ∧ bnd (inBlock own (compM own body W.xs)) (fun vs => bnd (unwalk W) fun _ => fin vs) ρ = fin all ρ2 := by
  unfold bnd inBlock unwalk at h ⊢
  by_cases hp : plainS ρ own = true
  · rw [if_pos hp] at h ⊢
    cases e : compM own body W.xs (killS ρ own) with
    | none => rw [e] at h; exact absurd rfl h
    | some r =>
      cases r with
      | exc c d ρ' => rw [e] at h; exact absurd rfl h
      | ok all ρE =>
        rw [e] at h
        dsimp only at h ⊢
        cases e2 : unroS (backS ρ ρE own) W.ro with
        | none => rw [e2] at h; exact absurd rfl h
        | some ρ2 => exact ⟨all, ρE, ρ2, hp, rfl, e2, rfl⟩
  · rw [if_neg hp] at h
    exact absurd rfl h
/-- the block's end -/
theorem blk_end {X : Cx} {σ : L2.St} {ρ1 ρE ρ2 : Sts} {F1 H1 Hl H : Hp} {A1 Z1 : Ft} {W : Walk} {lk : Lk} {vs : List Nat} {KI : Hp → Hp → L2.St → Sts → Prop} {D : Addr} {all : List Vl} (lko : LkOk X σ ρ1 F1 H1 Hl W lk) (okl : Ok F1 Hl σ ρ1 A1) (ro : RoOk σ ρ1 W lk) (hp : plainS ρ1 vs = true)
    (I : LcI F1 Hl Z1 (wipe σ vs) vs KI D all ρE H) (hu : unroS (backS ρ1 ρE vs) W.ro = some ρ2) (sm : Same (killS ρ1 vs) ρE) :
    UL X H lk ∧ ∃ F A B acc Z, Ok F (ul lk H) σ ρ2 A ∧ RepVs F (ul lk H) all acc B ∧ (∀ a, A a + B a ≤ 1) ∧ A D = 0 ∧ B D = 0 ∧ F D = none ∧ (ul lk H) D = some (.lst acc) ∧ Go F1 H1 Z1 F (ul lk H) Z ∧ Le A Z ∧ Le B Z ∧ Z D ≠ 0 := by
  obtain ⟨F, A, B, Z, acc, ok, ki, rv, le, ad, bd, fd, hd, g0, az, bz, zd, nr⟩ := I.ex
  have u := lko.ul g0
  obtain ⟨A2, ok2, le2⟩ := back_ok okl g0.ex ok (wipe_length σ vs) vs hp
  rw [backV_wipe] at ok2
  obtain ⟨k1, k2, k3⟩ := killS_get (ρ := ρ1) (l := vs)
  obtain ⟨b1, b2⟩ := backS_get (old := ρ1) (ρ := ρE) (l := vs)
  have smB : Same ρ1 (backS ρ1 ρE vs) := ⟨fun i d e => by
    have : i ∉ vs := fun z => plainS_not hp i z d e
    rw [b1 i this]
    exact sm.1 i d (by rw [k1 i this]; exact e), b2.trans (sm.2.trans k2)⟩
  have ls : ∀ d od u, lk = some (d, od, u) → LSrc F σ (backS ρ1 ρE vs) d u := fun d od u e => (lko.src d od u e).keep (g0.less (B := A2) fun a z => az a (by have := le2 a; omega)) ok2 smB fun _ _ _ => rfl
  have le' : ∀ a, A2 a + B a ≤ 1 := fun a => by have := le2 a; have := le a; omega
  have okU := ok2.unlock u ls
  have ok3 := unro_ok okU (ro_exact ro smB (fun _ _ _ => rfl) u) hu
  have side : RepVs F (ul lk H) all acc B ∧ (ul lk H) D = some (.lst acc) := by
    cases lk with
    | none => exact ⟨rv, hd⟩
    | some p =>
      obtain ⟨d, od, v⟩ := p
      have b0 := (ls d od v rfl).apart ok2 le' fun a z => RepVs.free rv a z
      refine ⟨rv.side b0, ?_⟩
      show upd H d v D = _
      rw [upd_ne fun e => by rw [e, u.1] at hd; cases hd]
      exact hd
  exact ⟨u, F, A2, B, acc, Z, ok3, side.1, le', by have := le2 D; omega, bd, fd, side.2, g0.unlock lko, fun a z => az a (by have := le2 a; omega), bz, zd⟩
theorem upd_self {H : Hp} {D : Addr} {o : HO} (h : H D = some o) : upd H D o = H := funext fun a => by
  by_cases q : a = D
  · subst q; rw [upd_same, h]
  · rw [upd_ne q]
section
variable {G : Glob} {X : Cx} {Wx : WX}
theorem e_lcR {st : PySem.Str → Option Nat} {tg it elt : Expr} {ifs : List Expr} {scope : Scope} {own : List (PySem.Str × Nat)} {pos : Pos} {w : M Walk} {c : M Bool} {em : M Vl} (hc : X.calm = true) (hN : X.N.Nodup) (hw : WOk G Wx X tg it w) (bk : BlkOk X.N X.env.scope scope own)
    (hg : ∀ (s : Shared) (H : Hp) (C : Addr) (cl : List (PySem.Str × Addr)) (fp : List Addr), PG (X.blk s H scope (compEnvC scope cl C X.env) fp) tg (gA st [] tg))
    (ht : ∀ (s : Shared) (H : Hp) (C : Addr) (cl : List (PySem.Str × Addr)) (fp : List Addr), PTs (X.blk s H scope (compEnvC scope cl C X.env) fp) ifs (tM G W0 RB c))
    (he : ∀ (s : Shared) (H : Hp) (C : Addr) (cl : List (PySem.Str × Addr)) (fp : List Addr), PE (X.blk s H scope (compEnvC scope cl C X.env) fp) elt (tM G W0 RV em))
    (hs : ∀ x, foldedSetIterable it X.env x = pure x) (hso : ∀ x i, st x = some i → i ∈ own.map (·.2)) (sb : ∀ x, Stay (lcBody (fun x => asgn st [] tg (0, x)) c em x)) (sg : ∀ x, Stay (asgn st [] tg (0, x))) (sc : Stay c) :
    ∃ wi, PI X tg it wi ∧ ∀ σ H Q, tM G Wx RV (cLc w (own.map (·.2)) (fun x => asgn st [] tg (0, x)) c em) σ H Q → tLc wi (gA st [] tg) (tM G W0 RB c) (tM G W0 RV em) (own.map (·.2)) σ H (fun x H' => ∃ lk, UL X H' lk ∧ Q x (ul lk H')) := by
  obtain ⟨wi, pi, run⟩ := hw
  refine ⟨wi, pi, fun σ H Q ⟨F, A, ρ, okk, h⟩ => ?_⟩
  refine run okk (fun a z => z) h ?_
  intro W J KI lk F1 H1 Hl A1 Z1 ρ1 e wk go ok1 lko okl ki ro az zz h1 D hD
  generalize hvs : own.map (·.2) = vs at *
  obtain ⟨all, ρE, ρ2, hp, hcm, hu, hfin⟩ := blk_parts (own := vs) (body := lcBody (fun x => asgn st [] tg (0, x)) c em) (fin := fun vs => if vs.length ≤ sizeLine then ret (lev vs + 1, .list (vs.map (·.2))) else stuck) (W := W) (ρ := ρ1) fun z => by
    have h1 : Aft G Wx RV F1 H1 Z1 σ (bnd (inBlock vs (compM vs (lcBody (fun x => asgn st [] tg (0, x)) c em) W.xs)) (fun vs => bnd (unwalk W) fun _ => if vs.length ≤ sizeLine then ret (lev vs + 1, .list (vs.map (·.2))) else stuck) ρ1) Q := h1
    rw [z] at h1
    exact h1
  have h2 : Aft G Wx RV F1 H1 Z1 σ ((if all.length ≤ sizeLine then ret (lev all + 1, .list (all.map (·.2))) else stuck : M Vl) ρ2) Q := by rw [← hfin]; exact h1
  by_cases hsz : all.length ≤ sizeLine
  case neg => rw [if_neg hsz] at h2; exact (h2 : False).elim
  rw [if_pos hsz] at h2
  have smE := compM_same sb hcm (killS_get (ρ := ρ1) (l := vs)).2.2
  refine ⟨fun i m H => m = W.xs.length - i ∧ i ≤ W.xs.length ∧ ∃ vsi ρi rest, LcI F1 Hl Z1 (wipe σ vs) vs KI D vsi ρi H ∧ compM vs (lcBody (fun x => asgn st [] tg (0, x)) c em) (W.xs.drop i) ρi = some (.ok rest ρE) ∧ vsi ++ rest = all, ⟨W.xs.length, by simp, Nat.zero_le _, [], killS ρ1 vs, all, lc_start wk okl ki az hp hD, hcm, rfl⟩, ?_⟩
  rintro i m H ⟨rfl, hi, vsi, ρi, rest, I, run, hall⟩
  obtain ⟨F, A, B, Z, acc, ok, ki, rv, le, ad, bd, fd, hd, g0, az', bz', zd, nr⟩ := I.ex
  by_cases hlt : i < W.xs.length
  · -- a turn
    obtain ⟨d, hdi⟩ : ∃ d, W.xs[i]? = some d := ⟨_, List.getElem?_eq_getElem hlt⟩
    have hdrop : W.xs.drop i = d :: W.xs.drop (i + 1) := by
      rw [List.drop_eq_getElem_cons hlt]
      rw [List.getElem?_eq_getElem hlt] at hdi
      rw [Option.some.inj hdi]
    rw [hdrop] at run
    obtain ⟨v1, ρk, r1, run⟩ := bnd_ok run
    obtain ⟨vs2, ρk2, r2, run⟩ := bnd_ok run
    cases run
    obtain ⟨ρb, rb, rk⟩ : ∃ ρb, lcBody (fun x => asgn st [] tg (0, x)) c em d ρi = some (.ok v1 ρb) ∧ ρk = killS ρb vs := by
      cases q : lcBody (fun x => asgn st [] tg (0, x)) c em d ρi with
      | none => rw [q] at r1; cases r1
      | some r =>
        cases r with
        | exc _ _ _ => rw [q] at r1; cases r1
        | ok v ρ' => rw [q] at r1; cases r1; exact ⟨ρ', rfl, rfl⟩
    subst rk
    have smb := sb d _ _ _ rb
    obtain ⟨u1, ρa, ra, rb⟩ := bnd_ok rb
    obtain ⟨b, ρc, rc, rb⟩ := bnd_ok rb
    refine .inr ⟨wk.go i _ _ _ _ _ ok ki hlt, fun H' => ∃ vsi' ρi' rest', LcI F1 Hl Z1 (wipe σ vs) vs KI D vsi' ρi' H' ∧ compM vs (lcBody (fun x => asgn st [] tg (0, x)) c em) (W.xs.drop (i + 1)) ρi' = some (.ok rest' ρE) ∧ vsi' ++ rest' = all, fun H' nx => ⟨W.xs.length - (i + 1), by omega, rfl, by omega, nx⟩, fun x H' y => ?_⟩
    obtain ⟨F', g1, ok', fz⟩ := wk.yld i _ _ _ _ _ d x H' ok ki hdi y
    refine ⟨F', A, fun _ => 0, ρi, (0, d), ok', ⟨fz, fun _ => rfl⟩, fun a => by have := ok'.one a; omega, ?_⟩
    rw [show asgn st [] tg (0, d) ρi = _ from ra]
    intro σ2 A2 la ok2 hl2 unt ks sm2
    have hw2 : wipe σ2 vs = wipe σ vs := wipe_ext (hl2.trans (wipe_length σ vs)) fun j hj => (unt j fun ⟨⟨x, hx⟩, _⟩ => hj (hso x j hx)).trans (wipe_out hj)
    refine ⟨hw2, F', A2, ρa, ok2, ?_⟩
    rw [rc]
    intro b' F3 H3 A3 B3 g3 ok3 r3 le3
    obtain ⟨rfl, z3⟩ := r3
    have gg : Go F H A F3 H3 A3 := (g1.less (B := A2) fun a z => by have : A2 a ≤ A a + 0 := la a; omega).trans (g3.less fun a z => by show A3 a + B3 a ≠ 0; omega)
    cases b' with
    | false =>
      cases rb
      obtain ⟨h4, I4⟩ := turn_end wk ok ki rv le ad bd fd hd g0 az' bz' zd nr (C := fun _ => 0) gg ok3 (v1 := []) (ys := []) ⟨rfl, fun _ => rfl⟩ (fun a => by have := ok3.one a; show A3 a + 0 ≤ 1; omega) hw2 smb
      rw [List.append_nil, List.append_nil, upd_self h4] at I4
      exact ⟨vsi, _, vs2, I4, r2, hall⟩
    | true =>
      obtain ⟨v, ρv, rv', rb⟩ := bnd_ok rb
      cases rb
      refine ⟨F3, A3, _, ok3, ?_⟩
      rw [rv']
      intro y F4 H4 A4 B4 g4 ok4 ry le4
      obtain ⟨h4, I4⟩ := turn_end wk ok ki rv le ad bd fd hd g0 az' bz' zd nr (C := B4) (gg.trans g4) ok4 (v1 := [v]) (ys := [y]) ⟨y, [], B4, fun _ => 0, rfl, ry, ⟨rfl, fun _ => rfl⟩, fun _ => rfl⟩ le4 hw2 smb
      refine ⟨acc, h4, ?_, vsi ++ [v], _, vs2, I4, r2, by rw [← hall, List.append_assoc]⟩
      have := RepVs.len rv
      have hl : (vsi ++ ([v] ++ vs2)).length = all.length := by rw [← hall]
      rw [List.length_append, List.length_append, List.length_singleton] at hl
      omega
  · -- the end
    have ei : i = W.xs.length := by omega
    refine .inl ⟨wk.stop i _ _ _ _ _ ok ki (by omega), ?_⟩
    rw [List.drop_eq_nil_of_le (by omega)] at run
    cases run
    rw [List.append_nil] at hall
    subst hall
    obtain ⟨u, F5, A5, B5, acc5, Z5, ok5, rv5, le5, ad5, bd5, fd5, hd5, g5, az5, bz5, zd5⟩ := blk_end lko okl ro hp I hu smE
    refine ⟨lk, u, ?_⟩
    obtain ⟨F6, B6, ex, r6⟩ := row_level (lev vsi) (lev_ok vsi) ok5.fok rv5 fun a => by have := le5 a; omega
    have b6 : B6 D = 0 := by have := ex.le D; omega
    have f6 : F6 D = none := by
      by_cases q : F6 D = F5 D
      · rw [q, fd5]
      · exact absurd bd5 (ex.new D q).1
    have := Aft.root2 (o := .lst acc5) (p := D) (Aft.base h2 g5) ok5 ex le5 az5 bz5 zd5 f6 ad5 b6 (fun o u q => by rw [hd5] at q; cases q) ⟨D, acc5, B6, rfl, upd_same, f6, by rw [upd_self hd5]; exact r6, fun a => rfl⟩
    rw [upd_self hd5] at this
    exact this
theorem e_lc {st : PySem.Str → Option Nat} {tg it elt : Expr} {ifs : List Expr} {scope : Scope} {own : List (PySem.Str × Nat)} {pos : Pos} {w : M Walk} {c : M Bool} {em : M Vl} (hc : X.calm = true) (hN : X.N.Nodup) (hw : WOk G Wx X tg it w) (bk : BlkOk X.N X.env.scope scope own)
    (hg : ∀ (s : Shared) (H : Hp) (C : Addr) (cl : List (PySem.Str × Addr)) (fp : List Addr), PG (X.blk s H scope (compEnvC scope cl C X.env) fp) tg (gA st [] tg))
    (ht : ∀ (s : Shared) (H : Hp) (C : Addr) (cl : List (PySem.Str × Addr)) (fp : List Addr), PTs (X.blk s H scope (compEnvC scope cl C X.env) fp) ifs (tM G W0 RB c))
    (he : ∀ (s : Shared) (H : Hp) (C : Addr) (cl : List (PySem.Str × Addr)) (fp : List Addr), PE (X.blk s H scope (compEnvC scope cl C X.env) fp) elt (tM G W0 RV em))
    (hs : ∀ x, foldedSetIterable it X.env x = pure x) (hso : ∀ x i, st x = some i → i ∈ own.map (·.2)) (sb : ∀ x, Stay (lcBody (fun x => asgn st [] tg (0, x)) c em x)) (sg : ∀ x, Stay (asgn st [] tg (0, x))) (sc : Stay c) :
    PE X (.ListComp elt [⟨tg, it, ifs, 0⟩] scope pos) (tM G Wx RV (cLc w (own.map (·.2)) (fun x => asgn st [] tg (0, x)) c em)) := by
  obtain ⟨wi, pi, h⟩ := e_lcR (pos := pos) hc hN hw bk hg ht he hs hso sb sg sc
  exact PE_imp (pe_free (pe_lc hc hN pi bk hg ht he hs)) h
end
end PD
end
section
/-! PD26: dict comprehensions (printed by mkdc.py out of PD25, but for the head and e_dc). -/
namespace PD
open PySem PySem.Spec PyProof.Rows L2
variable {α β : Type}
def RepDs (F H : Hp) : List (PyData × Vl) → List (Key × V) → Ft → Prop
  | [], xs, A => xs = [] ∧ ∀ a, A a = 0
  | (k, v) :: vs, xs, A => ∃ q y r B C, xs = (q, y) :: r ∧ k = keyPy q ∧ Rep F H v.1 v.2 y B ∧ RepDs F H vs r C ∧ ∀ a, A a = B a + C a
theorem RepDs.live {F H : Hp} : ∀ {vs : List (PyData × Vl)} {xs : List (Key × V)} {A : Ft}, RepDs F H vs xs A → ∀ a, A a ≠ 0 → H a ≠ none
  | [], _, _, h, a, z => absurd (h.2 a) z
  | (k, v) :: vs, _, A, ⟨q, y, r, B, C, e, e2, h1, h2, h3⟩, a, z => by
    by_cases hb : B a = 0
    · exact RepDs.live h2 a (by rw [h3 a] at z; omega)
    · exact Rep.live _ _ _ _ h1 a hb
theorem RepDs.free {F H : Hp} : ∀ {vs : List (PyData × Vl)} {xs : List (Key × V)} {A : Ft}, RepDs F H vs xs A → ∀ a, A a ≠ 0 → F a = none
  | [], _, _, h, a, z => absurd (h.2 a) z
  | (k, v) :: vs, _, A, ⟨q, y, r, B, C, e, e2, h1, h2, h3⟩, a, z => by
    by_cases hb : B a = 0
    · exact RepDs.free h2 a (by rw [h3 a] at z; omega)
    · exact Rep.free _ _ _ _ h1 a hb
theorem RepDs.mono {F H F' H' : Hp} : ∀ {vs : List (PyData × Vl)} {xs : List (Key × V)} {A : Ft}, Kp F H F' H' A → RepDs F H vs xs A → RepDs F' H' vs xs A
  | [], _, _, _, h => h
  | (kk, v) :: vs, _, A, k, ⟨q, y, r, B, C, e, e2, h1, h2, h3⟩ => ⟨q, y, r, B, C, e, e2, Rep.mono _ _ _ _ (k.imp fun a z => by rw [h3 a]; omega) h1, RepDs.mono (k.imp fun a z => by rw [h3 a]; omega) h2, h3⟩
theorem RepDs.len {F H : Hp} : ∀ {vs : List (PyData × Vl)} {xs : List (Key × V)} {A : Ft}, RepDs F H vs xs A → vs.length = xs.length
  | [], _, _, h => by rw [h.1]; rfl
  | (k, v) :: vs, _, A, ⟨q, y, r, B, C, e, e2, h1, h2, h3⟩ => by subst e; simp [RepDs.len h2]
theorem RepDs.app {F H : Hp} {ws : List (PyData × Vl)} {ys : List (Key × V)} {B : Ft} (h' : RepDs F H ws ys B) : ∀ {vs : List (PyData × Vl)} {xs : List (Key × V)} {A : Ft}, RepDs F H vs xs A → RepDs F H (vs ++ ws) (xs ++ ys) (fun a => A a + B a)
  | [], _, A, ⟨e, z⟩ => by
    subst e
    have : (fun a => A a + B a) = B := funext fun a => by rw [z a]; omega
    rw [this]
    exact h'
  | (k, v) :: vs, _, A, ⟨q, y, r, C, D, e, e2, h1, h2, h3⟩ => by subst e; exact ⟨q, y, _, C, _, rfl, e2, h1, RepDs.app h' h2, fun a => by show A a + B a = C a + (D a + B a); rw [h3 a]; omega⟩
theorem RepDs.side {F H : Hp} {vs : List (PyData × Vl)} {xs : List (Key × V)} {B : Ft} {D : Addr} {o : HO} (r : RepDs F H vs xs B) (bd : B D = 0) : RepDs F (upd H D o) vs xs B :=
  RepDs.mono ⟨Sub.refl F, fun a z => upd_ne fun e => z (e ▸ bd), fun a z f => f⟩ r
theorem RepDs.row {F H : Hp} : ∀ {vs : List (PyData × Vl)} {xs : List (Key × V)} {A : Ft}, RepDs F H vs xs A → ∃ ys, RepVs F H (vs.map (·.2)) ys A ∧ ys = xs.map (·.2) ∧ vs.map (·.1) = xs.map fun p => keyPy p.1
  | [], _, _, ⟨e, z⟩ => by subst e; exact ⟨[], ⟨rfl, z⟩, rfl, rfl⟩
  | (k, v) :: vs, _, A, ⟨q, y, r, B, C, e, e2, h1, h2, h3⟩ => by
    subst e e2
    obtain ⟨ys, i1, i2, i3⟩ := RepDs.row h2
    exact ⟨y :: ys, ⟨y, ys, B, C, rfl, h1, i1, h3⟩, by rw [i2]; rfl, by rw [List.map_cons, List.map_cons, i3]⟩
theorem reps_pairs {R : PyData → V → Ft → Prop} : ∀ {vs : List (PyData × Vl)} {xs : List (Key × V)} {A : Ft}, Reps R ((vs.map (·.2)).map (·.2)) (xs.map (·.2)) A → (vs.map (·.1) = xs.map fun p => keyPy p.1) → RepsK R (vs.map fun p => (p.1, p.2.2)) xs A
  | [], [], _, h, _ => ⟨rfl, h.2⟩
  | [], _ :: _, _, _, e => by cases e
  | _ :: _, [], _, _, e => by cases e
  | (k, v) :: vs, (q, y) :: xs, A, ⟨v', r, B, C, e, h1, h2, h3⟩, ek => by
    cases e
    rw [List.map_cons, List.map_cons] at ek
    injection ek with e1 e2
    exact ⟨q, y, xs, B, C, rfl, e1, h1, reps_pairs h2 e2, h3⟩
theorem ds_level {H : Hp} (k : Nat) {ps : List (PyData × Vl)} {xs : List (Key × V)} {B : Ft} {F : Hp} (hl : ∀ p, p ∈ ps.map (·.2) → levOk k p) (fk : FOk F H) (h : RepDs F H ps xs B) (le : ∀ a, B a ≤ 1) : ∃ F' B', Exr F H F' B B' ∧ RepsK (Rep F' H k) (ps.map fun p => (p.1, p.2.2)) xs B' := by
  obtain ⟨ys, h1, rfl, h3⟩ := h.row
  obtain ⟨F', B', ex, r⟩ := row_level k hl fk h1 le
  exact ⟨F', B', ex, reps_pairs r h3⟩
theorem mergeK_snoc (acc : List (Key × V)) (k : Key) (v : V) : mergeK [] (acc ++ [(k, v)]) = putK (mergeK [] acc) k v := by
  unfold mergeK
  rw [List.foldl_append]
  rfl
/-- the block as the evaluator runs it -/
def dcBody (tg : PyData → M Unit) (c : M Bool) (ke ve : M Vl) (x : PyData) : M (List (PyData × Vl)) := bnd (tg x) fun _ => bnd c fun b => if b = true then bnd ke fun k => bnd ve fun v => ret [(k.2, v)] else ret []
theorem key_rep {F H : Hp} {k : Nat} {d : PyData} {q : Key} {x : V} {B : Ft} (e : d = keyPy q) (r : Rep F H k d x B) : x = kV q ∧ ∀ a, B a = 0 := by
  subst e
  cases q with
  | inl i => cases k <;> exact ⟨r.1, r.2⟩
  | inr s => cases k <;> exact ⟨r.1, r.2⟩
/-- what holds at a turn's start -/
structure DcI (F1 Hl : Hp) (Z1 : Ft) (σw : L2.St) (vs : List Nat) (KI : Hp → Hp → L2.St → Sts → Prop) (D : Addr) (vsi : List (PyData × Vl)) (ρ : Sts) (H : Hp) : Prop where
  mk' :: ex : ∃ (F : Hp) (A B Z : Ft) (acc : List (Key × V)), Ok F H σw ρ A ∧ KI F H σw ρ ∧ RepDs F H vsi acc B ∧ (∀ a, A a + B a ≤ 1) ∧ A D = 0 ∧ B D = 0 ∧ F D = none ∧ H D = some (.dK (mergeK [] acc)) ∧ Go F1 Hl Z1 F H Z ∧ Le A Z ∧ Le B Z ∧ Z D ≠ 0 ∧ NoRo vs ρ
/-- a turn's end -/
theorem turn_endD {J : L2.It} {xs : List PyData} {KI : Hp → Hp → L2.St → Sts → Prop} (wk : Wk J xs KI) {F1 Hl F H F4 H4 : Hp} {Z1 A B Z A4 C : Ft} {σw σ4 : L2.St} {vs : List Nat} {D : Addr} {vsi v1 : List (PyData × Vl)} {ρ ρ4 : Sts} {acc ys : List (Key × V)}
    (ok : Ok F H σw ρ A) (ki : KI F H σw ρ) (rv : RepDs F H vsi acc B) (le : ∀ a, A a + B a ≤ 1) (ad : A D = 0) (bd : B D = 0) (fd : F D = none) (hd : H D = some (.dK (mergeK [] acc))) (g0 : Go F1 Hl Z1 F H Z) (az : Le A Z) (bz : Le B Z) (zd : Z D ≠ 0) (nr : NoRo vs ρ)
    (g : Go F H A F4 H4 (fun a => A4 a + C a)) (ok4 : Ok F4 H4 σ4 ρ4 A4) (nw : RepDs F4 H4 v1 ys C) (le4 : ∀ a, A4 a + C a ≤ 1) (hw : wipe σ4 vs = σw) (sm : Same ρ ρ4) :
    H4 D = some (.dK (mergeK [] acc)) ∧ DcI F1 Hl Z1 σw vs KI D (vsi ++ v1) (killS ρ4 vs) (upd H4 D (.dK (mergeK [] (acc ++ ys)))) := by
  have h4 : H4 D = some (.dK (mergeK [] acc)) := (g.fr D ad (by rw [hd]; exact fun e => nomatch e)).trans hd
  have dz : A4 D + C D = 0 := by
    by_cases q : A4 D + C D = 0
    · exact q
    · rcases g.nw D q with z | z
      · exact absurd ad z
      · rw [hd] at z; cases z
  have f4 : F4 D = none := by
    by_cases q : F4 D = F D
    · rw [q, fd]
    · rcases g.nf D q with z | z
      · exact absurd ad z
      · rw [hd] at z; cases z
  have ap : ∀ a, B a ≠ 0 → A a = 0 := fun a z => by have := le a; omega
  have rv4 := RepDs.mono (g.kp (fun a z => RepDs.live rv a z) ap) rv
  have apart : ∀ a, B a ≠ 0 → A4 a + C a = 0 := g.apart (fun a z => RepDs.live rv a z) ap
  obtain ⟨A5, ok5, le5⟩ := kill_ok ok4 vs
  rw [hw] at ok5
  have gg : Go F H Z F4 (upd H4 D (.dK (mergeK [] (acc ++ ys)))) (fun a => (A4 a + C a) + Z a) := g.side az zd fun x u e => by rw [hd] at e; cases e
  obtain ⟨k1, k2, k3⟩ := killS_get (ρ := ρ4) (l := vs)
  have sm' : Same ρ (killS ρ4 vs) := ⟨fun i d e => by
    have : i ∉ vs := fun z => nr i z d e
    rw [k1 i this]
    exact sm.1 i d e, k2.trans sm.2⟩
  refine ⟨h4, ⟨F4, A5, fun a => B a + C a, fun a => (A4 a + C a) + Z a, acc ++ ys, ok5.side (by have := le5 D; omega) f4, wk.keep _ _ _ _ _ _ _ _ _ _ ki gg sm' fun _ _ _ => rfl, (RepDs.app nw rv4).side (by show B D + C D = 0; omega), fun a => ?_, by have := le5 D; omega, by show B D + C D = 0; omega, f4, upd_same, g0.trans gg, fun a z => ?_, fun a z => ?_, ?_, k3⟩⟩
  · show A5 a + (B a + C a) ≤ 1
    have h1 := le5 a
    have h2 := le4 a
    by_cases q : B a = 0
    · omega
    · have := apart a q
      have := le a
      omega
  · show A4 a + C a + Z a ≠ 0
    have := le5 a
    omega
  · show A4 a + C a + Z a ≠ 0
    have z : B a + C a ≠ 0 := z
    by_cases q : B a = 0
    · omega
    · have := bz a q
      omega
  · show A4 D + C D + Z D ≠ 0
    omega
/-- the block's start -/
theorem lc_startD {J : L2.It} {xs : List PyData} {KI : Hp → Hp → L2.St → Sts → Prop} (wk : Wk J xs KI) {F1 Hl : Hp} {A1 Z1 : Ft} {σ : L2.St} {vs : List Nat} {D : Addr} {ρ1 : Sts} (ok : Ok F1 Hl σ ρ1 A1) (ki : KI F1 Hl σ ρ1) (az : Le A1 Z1) (hp : plainS ρ1 vs = true) (hD : Hl D = none) :
    DcI F1 Hl Z1 (wipe σ vs) vs KI D [] (killS ρ1 vs) (upd Hl D (.dK [])) := by
  obtain ⟨A0, ok0, le0⟩ := kill_ok ok vs
  obtain ⟨k1, k2, k3⟩ := killS_get (ρ := ρ1) (l := vs)
  have fd : F1 D = none := ok.fok.free hD
  have ad : A0 D = 0 := by
    by_cases q : A0 D = 0
    · exact q
    · exact absurd hD (RepS.live ok0.rep D q)
  have g : Go F1 Hl Z1 F1 (upd Hl D (.dK [])) (fun a => sg D a + Z1 a) := (Go.new hD).big fun a z => absurd rfl z
  have nr : NoRo vs ρ1 := fun i hi d e => plainS_not hp i hi d e
  refine ⟨F1, A0, fun _ => 0, _, [], ok0.side ad fd, wk.keep _ _ _ _ _ _ _ _ _ _ ki g ⟨fun i d e => by rw [k1 i fun z => nr i z d e]; exact e, k2⟩ fun i d e => wipe_out fun z => nr i z d e, ⟨rfl, fun _ => rfl⟩, fun a => by have := ok0.one a; show A0 a + 0 ≤ 1; omega, ad, rfl, fd, upd_same, g, fun a z => ?_, fun a z => absurd rfl z, ?_, k3⟩
  · show sg D a + Z1 a ≠ 0
    have := az a (by have := le0 a; omega)
    omega
  · show sg D D + Z1 D ≠ 0
    rw [sg_same]
    omega
/-- the block's end -/
theorem blk_endD {X : Cx} {σ : L2.St} {ρ1 ρE ρ2 : Sts} {F1 H1 Hl H : Hp} {A1 Z1 : Ft} {W : Walk} {lk : Lk} {vs : List Nat} {KI : Hp → Hp → L2.St → Sts → Prop} {D : Addr} {all : List (PyData × Vl)} (lko : LkOk X σ ρ1 F1 H1 Hl W lk) (okl : Ok F1 Hl σ ρ1 A1) (ro : RoOk σ ρ1 W lk) (hp : plainS ρ1 vs = true)
    (I : DcI F1 Hl Z1 (wipe σ vs) vs KI D all ρE H) (hu : unroS (backS ρ1 ρE vs) W.ro = some ρ2) (sm : Same (killS ρ1 vs) ρE) :
    UL X H lk ∧ ∃ F A B acc Z, Ok F (ul lk H) σ ρ2 A ∧ RepDs F (ul lk H) all acc B ∧ (∀ a, A a + B a ≤ 1) ∧ A D = 0 ∧ B D = 0 ∧ F D = none ∧ (ul lk H) D = some (.dK (mergeK [] acc)) ∧ Go F1 H1 Z1 F (ul lk H) Z ∧ Le A Z ∧ Le B Z ∧ Z D ≠ 0 := by
  obtain ⟨F, A, B, Z, acc, ok, ki, rv, le, ad, bd, fd, hd, g0, az, bz, zd, nr⟩ := I.ex
  have u := lko.ul g0
  obtain ⟨A2, ok2, le2⟩ := back_ok okl g0.ex ok (wipe_length σ vs) vs hp
  rw [backV_wipe] at ok2
  obtain ⟨k1, k2, k3⟩ := killS_get (ρ := ρ1) (l := vs)
  obtain ⟨b1, b2⟩ := backS_get (old := ρ1) (ρ := ρE) (l := vs)
  have smB : Same ρ1 (backS ρ1 ρE vs) := ⟨fun i d e => by
    have : i ∉ vs := fun z => plainS_not hp i z d e
    rw [b1 i this]
    exact sm.1 i d (by rw [k1 i this]; exact e), b2.trans (sm.2.trans k2)⟩
  have ls : ∀ d od u, lk = some (d, od, u) → LSrc F σ (backS ρ1 ρE vs) d u := fun d od u e => (lko.src d od u e).keep (g0.less (B := A2) fun a z => az a (by have := le2 a; omega)) ok2 smB fun _ _ _ => rfl
  have le' : ∀ a, A2 a + B a ≤ 1 := fun a => by have := le2 a; have := le a; omega
  have okU := ok2.unlock u ls
  have ok3 := unro_ok okU (ro_exact ro smB (fun _ _ _ => rfl) u) hu
  have side : RepDs F (ul lk H) all acc B ∧ (ul lk H) D = some (.dK (mergeK [] acc)) := by
    cases lk with
    | none => exact ⟨rv, hd⟩
    | some p =>
      obtain ⟨d, od, v⟩ := p
      have b0 := (ls d od v rfl).apart ok2 le' fun a z => RepDs.free rv a z
      refine ⟨rv.side b0, ?_⟩
      show upd H d v D = _
      rw [upd_ne fun e => by rw [e, u.1] at hd; cases hd]
      exact hd
  exact ⟨u, F, A2, B, acc, Z, ok3, side.1, le', by have := le2 D; omega, bd, fd, side.2, g0.unlock lko, fun a z => az a (by have := le2 a; omega), bz, zd⟩
section
variable {G : Glob} {X : Cx} {Wx : WX}
theorem e_dcR {st : PySem.Str → Option Nat} {tg it kx vx : Expr} {ifs : List Expr} {scope : Scope} {own : List (PySem.Str × Nat)} {pos : Pos} {w : M Walk} {c : M Bool} {km em : M Vl} (hc : X.calm = true) (hN : X.N.Nodup) (hw : WOk G Wx X tg it w) (bk : BlkOk X.N X.env.scope scope own)
    (hg : ∀ (s : Shared) (H : Hp) (C : Addr) (cl : List (PySem.Str × Addr)) (fp : List Addr), PG (X.blk s H scope (compEnvC scope cl C X.env) fp) tg (gA st [] tg))
    (ht : ∀ (s : Shared) (H : Hp) (C : Addr) (cl : List (PySem.Str × Addr)) (fp : List Addr), PTs (X.blk s H scope (compEnvC scope cl C X.env) fp) ifs (tM G W0 RB c))
    (hk : ∀ (s : Shared) (H : Hp) (C : Addr) (cl : List (PySem.Str × Addr)) (fp : List Addr), PE (X.blk s H scope (compEnvC scope cl C X.env) fp) kx (tM G W0 RV km))
    (he : ∀ (s : Shared) (H : Hp) (C : Addr) (cl : List (PySem.Str × Addr)) (fp : List Addr), PE (X.blk s H scope (compEnvC scope cl C X.env) fp) vx (tM G W0 RV em))
    (hs : ∀ x, foldedSetIterable it X.env x = pure x) (hso : ∀ x i, st x = some i → i ∈ own.map (·.2)) (sb : ∀ x, Stay (dcBody (fun x => asgn st [] tg (0, x)) c km em x)) (sg : ∀ x, Stay (asgn st [] tg (0, x))) (sc : Stay c) :
    ∃ wi, PI X tg it wi ∧ ∀ σ H Q, tM G Wx RV (cDc w (own.map (·.2)) (fun x => asgn st [] tg (0, x)) c km em) σ H Q → tDc wi (gA st [] tg) (tM G W0 RB c) (tM G W0 RV km) (tM G W0 RV em) (own.map (·.2)) σ H (fun x H' => ∃ lk, UL X H' lk ∧ Q x (ul lk H')) := by
  obtain ⟨wi, pi, run⟩ := hw
  refine ⟨wi, pi, fun σ H Q ⟨F, A, ρ, okk, h⟩ => ?_⟩
  refine run okk (fun a z => z) h ?_
  intro W J KI lk F1 H1 Hl A1 Z1 ρ1 e wk go ok1 lko okl ki ro az zz h1 D hD
  generalize hvs : own.map (·.2) = vs at *
  obtain ⟨all, ρE, ρ2, hp, hcm, hu, hfin⟩ := blk_parts (own := vs) (body := dcBody (fun x => asgn st [] tg (0, x)) c km em) (fin := fun vs => if decide (vs.length ≤ sizeLine) && (vs.all fun p => keyLeaf p.1) then ret (lev (vs.map (·.2)) + 1, .dict (mergeD [] (vs.map fun p => (p.1, p.2.2)))) else stuck) (W := W) (ρ := ρ1) fun z => by
    have h1 : Aft G Wx RV F1 H1 Z1 σ (bnd (inBlock vs (compM vs (dcBody (fun x => asgn st [] tg (0, x)) c km em) W.xs)) (fun vs => bnd (unwalk W) fun _ => if decide (vs.length ≤ sizeLine) && (vs.all fun p => keyLeaf p.1) then ret (lev (vs.map (·.2)) + 1, .dict (mergeD [] (vs.map fun p => (p.1, p.2.2)))) else stuck) ρ1) Q := h1
    rw [z] at h1
    exact h1
  have h2 : Aft G Wx RV F1 H1 Z1 σ ((if decide (all.length ≤ sizeLine) && (all.all fun p => keyLeaf p.1) then ret (lev (all.map (·.2)) + 1, .dict (mergeD [] (all.map fun p => (p.1, p.2.2)))) else stuck : M Vl) ρ2) Q := by rw [← hfin]; exact h1
  by_cases hsz : (decide (all.length ≤ sizeLine) && (all.all fun p => keyLeaf p.1)) = true
  case neg => rw [if_neg hsz] at h2; exact (h2 : False).elim
  rw [if_pos hsz] at h2
  obtain ⟨hsz, hleaf⟩ := and_t hsz
  have hsz := of_decide_eq_true hsz
  have smE := compM_same sb hcm (killS_get (ρ := ρ1) (l := vs)).2.2
  refine ⟨fun i m H => m = W.xs.length - i ∧ i ≤ W.xs.length ∧ ∃ vsi ρi rest, DcI F1 Hl Z1 (wipe σ vs) vs KI D vsi ρi H ∧ compM vs (dcBody (fun x => asgn st [] tg (0, x)) c km em) (W.xs.drop i) ρi = some (.ok rest ρE) ∧ vsi ++ rest = all, ⟨W.xs.length, by simp, Nat.zero_le _, [], killS ρ1 vs, all, lc_startD wk okl ki az hp hD, hcm, rfl⟩, ?_⟩
  rintro i m H ⟨rfl, hi, vsi, ρi, rest, I, run, hall⟩
  obtain ⟨F, A, B, Z, acc, ok, ki, rv, le, ad, bd, fd, hd, g0, az', bz', zd, nr⟩ := I.ex
  by_cases hlt : i < W.xs.length
  · -- a turn
    obtain ⟨d, hdi⟩ : ∃ d, W.xs[i]? = some d := ⟨_, List.getElem?_eq_getElem hlt⟩
    have hdrop : W.xs.drop i = d :: W.xs.drop (i + 1) := by
      rw [List.drop_eq_getElem_cons hlt]
      rw [List.getElem?_eq_getElem hlt] at hdi
      rw [Option.some.inj hdi]
    rw [hdrop] at run
    obtain ⟨v1, ρk, r1, run⟩ := bnd_ok run
    obtain ⟨vs2, ρk2, r2, run⟩ := bnd_ok run
    cases run
    obtain ⟨ρb, rb, rk⟩ : ∃ ρb, dcBody (fun x => asgn st [] tg (0, x)) c km em d ρi = some (.ok v1 ρb) ∧ ρk = killS ρb vs := by
      cases q : dcBody (fun x => asgn st [] tg (0, x)) c km em d ρi with
      | none => rw [q] at r1; cases r1
      | some r =>
        cases r with
        | exc _ _ _ => rw [q] at r1; cases r1
        | ok v ρ' => rw [q] at r1; cases r1; exact ⟨ρ', rfl, rfl⟩
    subst rk
    have smb := sb d _ _ _ rb
    obtain ⟨u1, ρa, ra, rb⟩ := bnd_ok rb
    obtain ⟨b, ρc, rc, rb⟩ := bnd_ok rb
    refine .inr ⟨wk.go i _ _ _ _ _ ok ki hlt, fun H' => ∃ vsi' ρi' rest', DcI F1 Hl Z1 (wipe σ vs) vs KI D vsi' ρi' H' ∧ compM vs (dcBody (fun x => asgn st [] tg (0, x)) c km em) (W.xs.drop (i + 1)) ρi' = some (.ok rest' ρE) ∧ vsi' ++ rest' = all, fun H' nx => ⟨W.xs.length - (i + 1), by omega, rfl, by omega, nx⟩, fun x H' y => ?_⟩
    obtain ⟨F', g1, ok', fz⟩ := wk.yld i _ _ _ _ _ d x H' ok ki hdi y
    refine ⟨F', A, fun _ => 0, ρi, (0, d), ok', ⟨fz, fun _ => rfl⟩, fun a => by have := ok'.one a; omega, ?_⟩
    rw [show asgn st [] tg (0, d) ρi = _ from ra]
    intro σ2 A2 la ok2 hl2 unt ks sm2
    have hw2 : wipe σ2 vs = wipe σ vs := wipe_ext (hl2.trans (wipe_length σ vs)) fun j hj => (unt j fun ⟨⟨x, hx⟩, _⟩ => hj (hso x j hx)).trans (wipe_out hj)
    refine ⟨hw2, F', A2, ρa, ok2, ?_⟩
    rw [rc]
    intro b' F3 H3 A3 B3 g3 ok3 r3 le3
    obtain ⟨rfl, z3⟩ := r3
    have gg : Go F H A F3 H3 A3 := (g1.less (B := A2) fun a z => by have : A2 a ≤ A a + 0 := la a; omega).trans (g3.less fun a z => by show A3 a + B3 a ≠ 0; omega)
    cases b' with
    | false =>
      cases rb
      obtain ⟨h4, I4⟩ := turn_endD wk ok ki rv le ad bd fd hd g0 az' bz' zd nr (C := fun _ => 0) gg ok3 (v1 := []) (ys := []) ⟨rfl, fun _ => rfl⟩ (fun a => by have := ok3.one a; show A3 a + 0 ≤ 1; omega) hw2 smb
      rw [List.append_nil, List.append_nil, upd_self h4] at I4
      exact ⟨vsi, _, vs2, I4, r2, hall⟩
    | true =>
      obtain ⟨kv, ρq, rq, rb⟩ := bnd_ok rb
      obtain ⟨v, ρv, rv', rb⟩ := bnd_ok rb
      cases rb
      refine ⟨F3, A3, _, ok3, ?_⟩
      rw [rq]
      intro yk F5 H5 A5 B5 g5 ok5 rk5 le5
      have kl : keyLeaf kv.2 = true := by
        have h := List.all_eq_true.mp hleaf (kv.2, v) (by rw [← hall]; exact List.mem_append_right _ (List.mem_append_left _ (List.mem_singleton.mpr rfl)))
        exact h
      obtain ⟨q, eq⟩ := leaf_key kl
      obtain ⟨eyk, z5⟩ := key_rep eq rk5
      refine ⟨F5, A5, _, ok5, ?_⟩
      rw [rv']
      intro y F4 H4 A4 B4 g4 ok4 ry le4
      have gg5 : Go F H A F5 H5 A5 := gg.trans (g5.less fun a z => by show A5 a + B5 a ≠ 0; omega)
      obtain ⟨h4, I4⟩ := turn_endD wk ok ki rv le ad bd fd hd g0 az' bz' zd nr (C := B4) (gg5.trans g4) ok4 (v1 := [(kv.2, v)]) (ys := [(q, y)]) ⟨q, y, [], B4, fun _ => 0, rfl, eq, ry, ⟨rfl, fun _ => rfl⟩, fun _ => rfl⟩ le4 hw2 smb
      rw [mergeK_snoc] at I4
      refine ⟨mergeK [] acc, q, eyk, h4, ?_, vsi ++ [(kv.2, v)], _, vs2, I4, r2, by rw [← hall, List.append_assoc]⟩
      have := RepDs.len rv
      have hl : (vsi ++ ([(kv.2, v)] ++ vs2)).length = all.length := by rw [← hall]
      rw [List.length_append, List.length_append, List.length_singleton] at hl
      have := length_mergeK acc []
      rw [List.length_nil] at this
      omega
  · -- the end
    have ei : i = W.xs.length := by omega
    refine .inl ⟨wk.stop i _ _ _ _ _ ok ki (by omega), ?_⟩
    rw [List.drop_eq_nil_of_le (by omega)] at run
    cases run
    rw [List.append_nil] at hall
    subst hall
    obtain ⟨u, F5, A5, B5, acc5, Z5, ok5, rv5, le5, ad5, bd5, fd5, hd5, g5, az5, bz5, zd5⟩ := blk_endD lko okl ro hp I hu smE
    refine ⟨lk, u, ?_⟩
    obtain ⟨F6, B7, ex7, r7⟩ := ds_level (lev (vsi.map (·.2))) (lev_ok _) ok5.fok rv5 fun a => by have := le5 a; omega
    obtain ⟨B6, r6, l6⟩ := merge_reps (kvs := []) (ks := []) (C := fun _ => 0) r7 ⟨rfl, fun _ => rfl⟩ List.nodup_nil
    have ex : Exr F5 (ul lk H) F6 B5 B6 := ⟨ex7.sub, ex7.fok, fun a => by have := l6 a; have := ex7.le a; omega, fun a z => ⟨(ex7.new a z).1, by have := l6 a; have := (ex7.new a z).2; omega⟩⟩
    have b6 : B6 D = 0 := by have := ex.le D; omega
    have f6 : F6 D = none := by
      by_cases q : F6 D = F5 D
      · rw [q, fd5]
      · exact absurd bd5 (ex.new D q).1
    have := Aft.root2 (o := .dK (mergeK [] acc5)) (p := D) (Aft.base h2 g5) ok5 ex le5 az5 bz5 zd5 f6 ad5 b6 (fun o u q => by rw [hd5] at q; cases q) ⟨D, B6, rfl, f6, .inl ⟨_, upd_same, by rw [upd_self hd5]; exact r6⟩, fun a => rfl⟩
    rw [upd_self hd5] at this
    exact this
theorem e_dc {st : PySem.Str → Option Nat} {tg it kx vx : Expr} {ifs : List Expr} {scope : Scope} {own : List (PySem.Str × Nat)} {pos : Pos} {w : M Walk} {c : M Bool} {km em : M Vl} (hc : X.calm = true) (hN : X.N.Nodup) (hw : WOk G Wx X tg it w) (bk : BlkOk X.N X.env.scope scope own)
    (hg : ∀ (s : Shared) (H : Hp) (C : Addr) (cl : List (PySem.Str × Addr)) (fp : List Addr), PG (X.blk s H scope (compEnvC scope cl C X.env) fp) tg (gA st [] tg))
    (ht : ∀ (s : Shared) (H : Hp) (C : Addr) (cl : List (PySem.Str × Addr)) (fp : List Addr), PTs (X.blk s H scope (compEnvC scope cl C X.env) fp) ifs (tM G W0 RB c))
    (hk : ∀ (s : Shared) (H : Hp) (C : Addr) (cl : List (PySem.Str × Addr)) (fp : List Addr), PE (X.blk s H scope (compEnvC scope cl C X.env) fp) kx (tM G W0 RV km))
    (he : ∀ (s : Shared) (H : Hp) (C : Addr) (cl : List (PySem.Str × Addr)) (fp : List Addr), PE (X.blk s H scope (compEnvC scope cl C X.env) fp) vx (tM G W0 RV em))
    (hs : ∀ x, foldedSetIterable it X.env x = pure x) (hso : ∀ x i, st x = some i → i ∈ own.map (·.2)) (sb : ∀ x, Stay (dcBody (fun x => asgn st [] tg (0, x)) c km em x)) (sg : ∀ x, Stay (asgn st [] tg (0, x))) (sc : Stay c) :
    PE X (.DictComp kx vx [⟨tg, it, ifs, 0⟩] scope pos) (tM G Wx RV (cDc w (own.map (·.2)) (fun x => asgn st [] tg (0, x)) c km em)) := by
  obtain ⟨wi, pi, h⟩ := e_dcR (pos := pos) hc hN hw bk hg ht hk he hs hso sb sg sc
  exact PE_imp (pe_free (pe_dc hc hN pi bk hg ht hk he hs)) h
end
end PD
end
section
/-! PD27: every expression. -/
namespace PD
open PySem PySem.Spec PyProof.Rows L2
variable {α β : Type}
structure Wl (G : Glob) (X : Cx) (cx : Ctx) (cl : Callee) (k : Nat) (W : WX) : Prop where
  c : Cxt G X cx
  rn : Run G X cl k
  z : Cz X
  tk : Takes X W
  free : ∀ x, G.pg.free x = true → X.mg x = none
  con : ∀ x d, G.pg.con x = some d → ∃ v u, X.mg x = some u ∧ RelV v u ∧ ∀ F, Fz F d v
section
variable {G : Glob} {X : Cx} {W : WX} {cx : Ctx} {E : Expr → M Vl} {cl : Callee} {k : Nat}
theorem Wl.blk (w : Wl G X cx cl k W) (s : Shared) (H : Hp) (scope : Scope) (C : Addr) (cc : List (PySem.Str × Addr)) (fp : List Addr) : Wl G (X.blk s H scope (compEnvC scope cc C X.env) fp) (inner cx scope) cl k W0 where
  c := ⟨by show relS scope X.env.scope = relS scope cx.sc; rw [w.c.sc], w.c.N, w.c.nd⟩
  rn := ⟨⟨w.rn.wd.prog, w.rn.wd.w, w.rn.wd.K, w.rn.wd.mg, w.rn.wd.base⟩, w.rn.fns, w.rn.room, w.rn.gd⟩
  z := ⟨w.z.sys, w.z.gd, w.z.un, w.z.calm⟩
  tk := fun u s' ⟨a, B, sI, pins, σ, H, cls, d, e, I, nb, up, sky, na, os, ag, ff⟩ => (ff : False).elim
  free := w.free
  con := w.con
theorem blt_wl (w : Wl G X cx cl k W) {x f : PySem.Str} (h : blt G.pg cx x f = true) : x = f ∧ Gl X f ∧ X.mg f = none := by
  unfold blt at h
  obtain ⟨h, h3⟩ := and_t h
  obtain ⟨h1, h2⟩ := and_t h
  have e := of_decide_eq_true h1
  subst e
  exact ⟨rfl, glb_of w.c h2, w.free _ h3⟩
theorem e_walk (w : Wl G X cx cl k W) (hE : ∀ e, PE X e (tM G W RV (E e))) (tg it : Expr) : WOk G W X tg it (walk G.pg cx E tg it) := by
  have hO : ∀ e, PE X e (tM G W RO (opnd cx E e)) := fun e => e_opnd w.c (hE e)
  unfold walk
  split
  · rename_i f p a pos
    split
    · rename_i h
      obtain ⟨h1, h2⟩ := and_t h
      obtain ⟨rfl, h3, h4⟩ := blt_wl w h1
      exact e_range1 hE h2 h3 h4
    · split
      · rename_i h
        obtain ⟨h, h2⟩ := and_t h
        obtain ⟨h1, ht⟩ := and_t h
        obtain ⟨rfl, h3, h4⟩ := blt_wl w h1
        cases tg with
        | Tuple ts kk tp => exact e_enum (hO _) h2 h3 h4
        | _ => cases ht
      · exact e_walkO (hO _)
  · rename_i f p a b pos
    split
    · rename_i h
      obtain ⟨h1, h2⟩ := and_t h
      obtain ⟨rfl, h3, h4⟩ := blt_wl w h1
      exact e_range2 hE h2 h3 h4
    · split
      · rename_i h
        obtain ⟨h, h2⟩ := and_t h
        obtain ⟨h1, ht⟩ := and_t h
        obtain ⟨rfl, h3, h4⟩ := blt_wl w h1
        cases tg with
        | Tuple ts kk tp => exact e_zip (hO _) (hO _) h2 h3 h4
        | _ => cases ht
      · exact e_walkO (hO _)
  · exact e_walkO (hO _)
theorem e_name (w : Wl G X cx cl k W) (x : PySem.Str) (pos : Pos) : PE X (.Name x pos) (tM G W RV (cName G.pg cx x pos)) := by
  unfold cName
  split
  · rename_i i hi
    split
    · exact PE_imp (pe_slot w.c hi) fun σ H Q h => e_move h
    · exact PE_imp (pe_slot w.c hi) fun σ H Q h => e_share h
  · split
    · rename_i h
      obtain ⟨h1, h2⟩ := and_t h
      cases e : G.pg.con x with
      | none => exact PE_no fun σ H Q ⟨_, _, _, _, h⟩ => h
      | some d =>
        obtain ⟨v, u, m1, m2, m3⟩ := w.con x d e
        refine PE_imp (pe_glob (glb_of w.c h1) m1 m2 (okName_of h2).1) fun σ H Q ⟨F, A, ρ, ok, h⟩ => ?_
        exact Aft.fin (R' := RV) (v := (0, d)) h ok ⟨m3 F, fun _ => rfl⟩ (B := fun _ => 0) (fun a => ok.one a) (fun _ z => z) fun a z => absurd rfl z
    · exact PE_no fun σ H Q h => tM_stuck h
theorem lookup_relS {sc : Scope} {x : PySem.Str} {kd : NameKind} (hk : (kd == .free) = false) : ∀ {l : List (PySem.Str × NameKind)}, l.lookup x = some kd → (l.map fun (n, q) => if (q == .free && sc.kind == .function && sc.names.lookup n == some .cell) then (n, NameKind.cell) else (n, q)).lookup x = some kd
  | [], h => by cases h
  | (n, q) :: l, h => by
    rw [List.map_cons]
    rw [List.lookup_cons] at h
    by_cases e : (x == n) = true
    · rw [e] at h
      cases h
      simp only [hk, Bool.false_and, Bool.false_eq_true, if_false]
      rw [List.lookup_cons, e]
    · have e : (x == n) = false := by simpa using e
      rw [e] at h
      have := lookup_relS hk (sc := sc) h
      by_cases c : (q == .free && sc.kind == .function && sc.names.lookup n == some .cell) = true
      · simp only [c, if_true]
        rw [List.lookup_cons, e]
        exact this
      · have c : (q == .free && sc.kind == .function && sc.names.lookup n == some .cell) = false := by simpa using c
        simp only [c, Bool.false_eq_true, if_false]
        rw [List.lookup_cons, e]
        exact this
theorem blkSlot_at {scope : Scope} {N : List PySem.Str} {x : PySem.Str} {i : Nat} (h : blkSlot scope N x = some i) : N.idxOf? x = some i ∧ (scope.names.lookup x = some .local ∨ scope.names.lookup x = some .cell) := by
  unfold blkSlot at h
  split at h
  · rename_i e; exact ⟨h, .inl e⟩
  · rename_i e; exact ⟨h, .inr e⟩
  · cases h
theorem blkSlot_st (w : Wl G X cx cl k W) {scope : Scope} (s : Shared) (H : Hp) (C : Addr) (cc : List (PySem.Str × Addr)) (fp : List Addr) : StOk (X.blk s H scope (compEnvC scope cc C X.env) fp) (blkSlot scope cx.N) := ⟨fun x i h => by
  obtain ⟨h1, h2⟩ := blkSlot_at h
  refine ⟨?_, ?_, ?_⟩
  · show X.N[i]? = some x
    rw [w.c.N]
    exact idx_at h1
  · rcases h2 with e | e
    · exact .inl (lookup_relS (sc := X.env.scope) rfl e)
    · exact .inr (lookup_relS (sc := X.env.scope) rfl e)
  · rcases h2 with e | e
    · exact .inr (lookup_relS (sc := X.env.scope) rfl e)
    · refine .inl ?_
      show (scope.names.lookup x == some .cell) = true
      rw [e]
      rfl⟩
theorem own_in {N : List PySem.Str} {x : PySem.Str} {i : Nat} (hi : N.idxOf? x = some i) : ∀ {l : List (PySem.Str × NameKind)}, (l.lookup x = some .local ∨ l.lookup x = some .cell) → i ∈ (ownSlots N l).map (·.2)
  | [], h => by rcases h with h | h <;> cases h
  | (n, q) :: l, h => by
    rw [List.lookup_cons] at h
    by_cases e : (x == n) = true
    · rw [e] at h
      have en : x = n := by simpa using e
      subst en
      rcases h with h | h <;> (cases h; unfold ownSlots; rw [hi]; exact List.mem_cons_self ..)
    · have e : (x == n) = false := by simpa using e
      rw [e] at h
      have := own_in hi h
      cases q <;> unfold ownSlots <;> first
        | exact this
        | (split
           · exact List.mem_cons_of_mem _ this
           · exact this)
theorem pts_cond {em : Expr → M Vl} (hE : ∀ e, PT X e (tM G W RB (tst (em e)))) : ∀ ifs : List Expr, PTs X ifs (tM G W RB (cond em ifs))
  | [] => ⟨fun pins s σ H Q I ⟨F, A, ρ, ok, h⟩ => (pts_nil (X := X)).run pins s σ H Q I (by
      have h : Aft G W RB F H A σ (some (.ok true ρ)) Q := h
      exact h true F H A (fun _ => 0) ((Go.refl F H A).less fun a z => by have z' : A a + 0 ≠ 0 := z; omega) ok ⟨rfl, fun _ => rfl⟩ (fun a => ok.one a))⟩
  | [c] => pts_one (hE c)
  | _ :: _ :: _ => ⟨fun pins s σ H Q I h => (tM_stuck h).elim⟩
theorem ev_zero (e : Expr) : ev G.pg cl 0 cx e = stuck := by unfold ev; rfl
theorem plainIx {b : Expr} (h : ∀ lo hi st p, b ≠ .Slice lo hi st p) : PlainIx b := fun o i => by
  cases b <;> first | rfl | exact absurd rfl (h _ _ _ _)
theorem noSet_fold {it : Expr} (h : noSet it = true) (x : Value) : foldedSetIterable it X.env x = pure x := by cases it <;> first | rfl | cases h
theorem e_blt1' (w : Wl G X cx cl k W) (hO : ∀ e, PE X e (tM G W RO (opnd cx E e))) {f : PySem.Str} {a : Expr} {p pos : Pos} (hn : noStar [a] = true) : PE X (.Call (.Name f p) [a] [] pos) (tM G W RV (blt1 G.pg cx E f a)) := by
  unfold blt1
  split
  · rename_i h
    obtain ⟨h1, h2⟩ := and_t h
    split
    · exact e_look w.z (by assumption) (glb_of w.c h1) (w.free _ h2) hn (hO a)
    · split
      · exact e_make w.z (by assumption) (glb_of w.c h1) (w.free _ h2) hn (hO a)
      · exact PE_no fun σ H Q h => tM_stuck h
  · exact PE_no fun σ H Q h => tM_stuck h
theorem tyn (w : Wl G X cx cl k W) {T : PySem.Str} {q : Pos} {Ts : List PySem.Str} (h : tyNames G.pg cx [.Name T q] = some Ts) : TyN X T := by
  unfold tyNames at h
  split at h
  · rename_i e
    obtain ⟨h1, h2⟩ := and_t e
    exact ⟨glb_of w.c h1, w.free _ h2⟩
  · cases h
theorem e_blt2' (w : Wl G X cx cl k W) (hO : ∀ e, PE X e (tM G W RO (opnd cx E e))) {f : PySem.Str} {a b : Expr} {p pos : Pos} (hn : noStar [a, b] = true) : PE X (.Call (.Name f p) [a, b] [] pos) (tM G W RV (blt2 G.pg cx E f a b)) := by
  have hn1 : noStar [a] = true := by
    cases a <;> first | rfl | cases hn
  unfold blt2
  split
  · rename_i h
    obtain ⟨h1, h2⟩ := and_t h
    split
    · rename_i e
      subst e
      split
      · split
        · rename_i hT
          split
          · exact e_is1 (by assumption) (tyn w hT) (glb_of w.c h1) (w.free _ h2) hn1 (hO a)
          · exact PE_no fun σ H Q h => tM_stuck h
        · exact PE_no fun σ H Q h => tM_stuck h
      · split
        · rename_i hT
          split
          · rename_i hk
            obtain ⟨k1, k2⟩ := and_t hk
            exact e_isM w.c w.free hT k1 (of_decide_eq_true k2) (glb_of w.c h1) (w.free _ h2) hn1 (hO a)
          · exact PE_no fun σ H Q h => tM_stuck h
        · exact PE_no fun σ H Q h => tM_stuck h
      · exact PE_no fun σ H Q h => tM_stuck h
    · split
      · rename_i h3
        exact e_look2 w.z ((Bool.or_eq_true_iff.mp h3).imp of_decide_eq_true of_decide_eq_true) (glb_of w.c h1) (w.free _ h2) hn (hO a) (hO b)
      · exact PE_no fun σ H Q h => tM_stuck h
  · exact PE_no fun σ H Q h => tM_stuck h
theorem e_m1 (w : Wl G X cx cl k W) (hE : ∀ e, PE X e (tM G W RV (E e))) {o a : Expr} {m : PySem.Str} {ap cp : Pos} (hr : recvOk o ap cp = true) (hn : noStar [a] = true) : PE X (.Call (.Attribute o m ap) [a] [] cp) (tM G W RV (meth1 cx E o m a)) := by
  have hO : ∀ e, PE X e (tM G W RO (opnd cx E e)) := fun e => e_opnd w.c (hE e)
  unfold meth1
  split
  · rename_i e
    subst e
    split
    · split
      · exact e_append w.c (by assumption) hr hn (hE a)
      · exact PE_no fun σ H Q h => tM_stuck h
    · exact PE_no fun σ H Q h => tM_stuck h
  · split
    · rename_i e
      subst e
      split
      · split
        · exact e_pop w.c (by assumption) hr hn (hE a)
        · exact PE_no fun σ H Q h => tM_stuck h
      · exact PE_no fun σ H Q h => tM_stuck h
    · split
      · rename_i e
        subst e
        exact e_get1 w.z hr hn (hO o) (hO a)
      · split
        · rename_i e
          subst e
          exact e_count w.z hr hn (hO o) (hO a)
        · exact PE_no fun σ H Q h => tM_stuck h
theorem e_m2 (w : Wl G X cx cl k W) (hE : ∀ e, PE X e (tM G W RV (E e))) {o a b : Expr} {m : PySem.Str} {ap cp : Pos} (hr : recvOk o ap cp = true) (hn : noStar [a, b] = true) : PE X (.Call (.Attribute o m ap) [a, b] [] cp) (tM G W RV (meth2 cx E o m a b)) := by
  have hO : ∀ e, PE X e (tM G W RO (opnd cx E e)) := fun e => e_opnd w.c (hE e)
  unfold meth2
  split
  · rename_i e
    subst e
    exact e_get2 w.z hr hn (hO o) (hO a) (hE b)
  · exact PE_no fun σ H Q h => tM_stuck h
theorem e_m0 (w : Wl G X cx cl k W) (hE : ∀ e, PE X e (tM G W RV (E e))) {o : Expr} {m : PySem.Str} {ap cp : Pos} (hr : recvOk o ap cp = true) : PE X (.Call (.Attribute o m ap) [] [] cp) (tM G W RV (meth0 cx E o m)) := by
  unfold meth0
  split
  · rename_i e
    subst e
    exact e_bits hr (e_opnd w.c (hE o))
  · exact PE_no fun σ H Q h => tM_stuck h
theorem e_own (w : Wl G X cx cl k W) (hE : ∀ e, PE X e (tM G W RV (E e))) {f : PySem.Str} {fn : Fn} {args : List Expr} {kws : List Keyword} {p pos : Pos} (hg : glb cx.sc f = true) (hf : G.pg.fn f = some fn) : PE X (.Call (.Name f p) args kws pos) (tM G W RV (ownCall cl cx E f fn args kws)) := by
  unfold ownCall
  split
  · split
    · exact e_call w.c w.rn w.tk hE hg hf args (by assumption)
    · exact PE_no fun σ H Q h => tM_stuck h
  · split
    · rename_i h
      obtain ⟨h, h3⟩ := and_t h
      obtain ⟨h1, h2⟩ := and_t h
      exact e_callK w.c w.rn w.tk hE hg hf args kws h1 h2 h3
    · exact PE_no fun σ H Q h => tM_stuck h
end
end PD
end
section
/-! PD28: the evaluator is sound for expressions. -/
namespace PD
open PySem PySem.Spec PyProof.Rows L2
variable {G : Glob} {cl : Callee} {k : Nat}
theorem ev_step (n : Nat) (ih : ∀ {X : Cx} {cx : Ctx} {W : WX}, Wl G X cx cl k W → (∀ e, PE X e (tM G W RV (ev G.pg cl n cx e))) ∧ (∀ e, PT X e (tM G W RB (tst (ev G.pg cl n cx e))))) {X : Cx} {cx : Ctx} {W : WX} (w : Wl G X cx cl k W) (e : Expr) : PE X e (tM G W RV (ev G.pg cl (n + 1) cx e)) := by
  obtain ⟨hE, hT⟩ := ih w
  have hO : ∀ e, PE X e (tM G W RO (opnd cx (ev G.pg cl n cx) e)) := fun e => e_opnd w.c (hE e)
  have no : ∀ {e : Expr}, PE X e (tM G W RV stuck) := PE_no fun σ H Q h => tM_stuck h
  unfold ev
  rw [asgnX_eq]
  split
  · exact e_const
  · exact e_name w _ _
  · exact e_and hE _
  · exact e_or hE _
  · exact e_not (hT _) (hE _)
  · exact e_neg (hE _)
  · split
    · exact e_cmp w.z _ (hO _) (hO _) (by assumption)
    · exact no
  · split
    · exact e_chain w.z _ _ (hO _) (hO _) (hO _) (by assumption)
    · exact no
  · split
    · rename_i e
      subst e
      exact e_add (hO _) (hO _)
    · exact e_num _ (hO _) (hO _)
  · exact e_if (hT _) (hE _) (hE _)
  · split
    · exact e_list (e_row hE _ (by assumption))
    · exact no
  · split
    · exact e_tuple (e_row hE _ (by assumption))
    · exact no
  · exact e_dict0
  · split
    · rename_i h
      obtain ⟨h, h3⟩ := and_t h
      obtain ⟨h1, h2⟩ := and_t h
      have h2 := of_decide_eq_true h2
      refine e_dict hE h1 h2 (of_decide_eq_true h3) ?_
      rintro rfl
      rename_i hne _ _
      exact hne rfl (List.length_eq_zero_iff.mp h2.symm)
    · exact no
  · exact e_slice hE (hO _)
  · exact no
  · exact e_item w.z (hO _) (hO _) (plainIx (by intro lo hi st p e; subst e; rename_i z; exact z _ _ _ _ rfl))
  · split
    · rename_i h
      obtain ⟨h, h3⟩ := and_t h
      obtain ⟨h1, h2⟩ := and_t h
      have h2 := of_decide_eq_true h2
      subst h2
      have bk := blkOk_by h1
      rw [← w.c.sc, ← w.c.N] at bk
      refine e_lc (own := ownSlots cx.N _) w.z.calm w.c.nd (e_walk w hE _ _) (by rw [w.c.N] at bk; rw [w.c.N]; exact bk) (fun s H C cc fp => g_tgt (X := X.blk s H _ (compEnvC _ cc C X.env) fp) w.z.calm w.c.nd (blkSlot_st w s H C cc fp) _) (fun s H C cc fp => pts_cond (ih (w.blk s H _ C cc fp)).2 _) (fun s H C cc fp => (ih (w.blk s H _ C cc fp)).1 _) (noSet_fold h3) (fun x i hx => ?_) (fun x => ?_) (fun x => .asgn _ _ _ _) (.cond (Stay.ev n _) _)
      · obtain ⟨q1, q2⟩ := blkSlot_at hx
        exact own_in q1 q2
      · exact (Stay.asgn _ _ _ _).bnd fun _ => (Stay.cond (Stay.ev n _) _).bnd fun b => .ite ((Stay.ev n _ _).bnd fun _ => .ret _) (.ret _)
    · exact no
  · split
    · rename_i h
      obtain ⟨h, h3⟩ := and_t h
      obtain ⟨h1, h2⟩ := and_t h
      have h2 := of_decide_eq_true h2
      subst h2
      have bk := blkOk_by h1
      rw [← w.c.sc, ← w.c.N] at bk
      refine e_dc (own := ownSlots cx.N _) w.z.calm w.c.nd (e_walk w hE _ _) (by rw [w.c.N] at bk; rw [w.c.N]; exact bk) (fun s H C cc fp => g_tgt (X := X.blk s H _ (compEnvC _ cc C X.env) fp) w.z.calm w.c.nd (blkSlot_st w s H C cc fp) _) (fun s H C cc fp => pts_cond (ih (w.blk s H _ C cc fp)).2 _) (fun s H C cc fp => (ih (w.blk s H _ C cc fp)).1 _) (fun s H C cc fp => (ih (w.blk s H _ C cc fp)).1 _) (noSet_fold h3) (fun x i hx => ?_) (fun x => ?_) (fun x => .asgn _ _ _ _) (.cond (Stay.ev n _) _)
      · obtain ⟨q1, q2⟩ := blkSlot_at hx
        exact own_in q1 q2
      · exact (Stay.asgn _ _ _ _).bnd fun _ => (Stay.cond (Stay.ev n _) _).bnd fun b => .ite ((Stay.ev n _ _).bnd fun _ => (Stay.ev n _ _).bnd fun _ => .ret _) (.ret _)
    · exact no
  · split
    · rename_i h
      unfold own at h
      split at h
      · rename_i h1
        exact e_own w hE (and_t h1).1 h
      · cases h
    · split
      · split
        · exact e_blt1' w hO (by assumption)
        · exact no
      · split
        · exact e_blt2' w hO (by assumption)
        · exact no
      · exact no
  · split
    · rename_i h
      obtain ⟨h1, h2⟩ := and_t h
      split
      · exact e_m0 w hE h1
      · exact e_m1 w hE h1 h2
      · exact e_m2 w hE h1 h2
      · exact no
    · exact no
  · exact no
theorem ev_test (n : Nat) (ih : ∀ {X : Cx} {cx : Ctx} {W : WX}, Wl G X cx cl k W → (∀ e, PE X e (tM G W RV (ev G.pg cl n cx e))) ∧ (∀ e, PT X e (tM G W RB (tst (ev G.pg cl n cx e))))) {X : Cx} {cx : Ctx} {W : WX} (w : Wl G X cx cl k W) (e : Expr) : PT X e (tM G W RB (tst (ev G.pg cl (n + 1) cx e))) := by
  obtain ⟨hE, hT⟩ := ih w
  have hO : ∀ e, PE X e (tM G W RO (opnd cx (ev G.pg cl n cx) e)) := fun e => e_opnd w.c (hE e)
  have no : ∀ {e : Expr}, PT X e (tM G W RB (tst stuck)) := PT_no fun σ H Q h => tM_stuck (α := Bool) h
  have step := ev_step n ih w e
  cases e with
  | BoolOp op es p =>
    cases op with
    | And => exact (w_and hT es).pt
    | Or => exact (w_or hT es).pt
  | UnaryOp op a p =>
    cases op with
    | Not => exact t_not (hT _)
    | _ => exact e_tst step fun _ => rfl
  | IfExp c a b p => exact t_if (hT _) (hT _) (hT _)
  | Compare a ops cs p =>
    have hno : ∀ {ops : List CmpOp} {cs : List Expr} {m : M Vl}, m = stuck → PT X (.Compare a ops cs p) (tM G W RB (tst m)) := fun e => by rw [e]; exact no
    match ops, cs with
    | [op], [b] =>
      show PT X _ (tM G W RB (tst (if noSet b then cCmp op (opnd cx (ev G.pg cl n cx) a) (opnd cx (ev G.pg cl n cx) b) else stuck)))
      split
      · exact t_cmp w.z _ (hO _) (hO _) (by assumption)
      · exact no
    | [op, op'], [b, c] =>
      show PT X _ (tM G W RB (tst (if noSet c then cChain op op' (opnd cx (ev G.pg cl n cx) a) (opnd cx (ev G.pg cl n cx) b) (opnd cx (ev G.pg cl n cx) c) else stuck)))
      split
      · exact t_chain w.z _ _ (hO _) (hO _) (hO _) (by assumption)
      · exact no
    | [], _ => exact hno rfl
    | [_], [] => exact hno rfl
    | [_], _ :: _ :: _ => exact hno rfl
    | [_, _], [] => exact hno rfl
    | [_, _], [_] => exact hno rfl
    | [_, _], _ :: _ :: _ :: _ => exact hno rfl
    | _ :: _ :: _ :: _, _ => exact hno rfl
  | _ => exact e_tst step fun _ => rfl
theorem ev_ok : ∀ (n : Nat) {X : Cx} {cx : Ctx} {W : WX}, Wl G X cx cl k W → (∀ e, PE X e (tM G W RV (ev G.pg cl n cx e))) ∧ (∀ e, PT X e (tM G W RB (tst (ev G.pg cl n cx e))))
  | 0, X, cx, W, w => ⟨fun e => PE_no fun σ H Q h => tM_stuck (by unfold ev at h; exact h), fun e => PT_no fun σ H Q h => tM_stuck (α := Bool) (by unfold ev at h; exact h)⟩
  | n + 1, X, cx, W, w => ⟨ev_step n (fun w => ev_ok n w) w, ev_test n (fun w => ev_ok n w) w⟩
end PD
end
section
/-! PD29: statements, how they read. -/
namespace PD
open PySem PySem.Spec PyProof.Rows L2
variable {α β ξ : Type}
/-- what a statement leaves: the slots lent to the def, the slots that are walked -/
structure KeepS (pr : List Nat) (ρ0 : Sts) (σ0 σ : L2.St) : Prop where
  len : σ.length = σ0.length
  pr : ∀ i, i ∈ pr → σ[i]? = σ0[i]?
  ro : ∀ (i : Nat) (d : PyData), ρ0[i]? = some (Slot.ro d) → σ[i]? = σ0[i]?
theorem KeepS.refl (pr : List Nat) (ρ0 : Sts) (σ0 : L2.St) : KeepS pr ρ0 σ0 σ0 := ⟨rfl, fun _ _ => rfl, fun _ _ _ => rfl⟩
theorem KeepS.trans {pr : List Nat} {ρ0 ρ1 : Sts} {σ0 σ1 σ2 : L2.St} (h : KeepS pr ρ0 σ0 σ1) (sm : Same ρ0 ρ1) (h' : KeepS pr ρ1 σ1 σ2) : KeepS pr ρ0 σ0 σ2 :=
  ⟨h'.len.trans h.len, fun i hi => (h'.pr i hi).trans (h.pr i hi), fun i d e => (h'.ro i d (sm.1 i d e)).trans (h.ro i d e)⟩
/-- behind a statement -/
def AftS (G : Glob) (Wx : WX) (pr : List Nat) (F H : Hp) (Z : Ft) (σ0 : L2.St) (ρ0 : Sts) (r : Option (Res Flw)) (D : Ends) : Prop := match r with
  | some (.ok .nx ρ') => ∀ σ' F' H' A', Go F H Z F' H' A' → Ok F' H' σ' ρ' A' → KeepS pr ρ0 σ0 σ' → D.nx σ' H'
  | some (.ok .bk ρ') => ∀ σ' F' H' A', Go F H Z F' H' A' → Ok F' H' σ' ρ' A' → KeepS pr ρ0 σ0 σ' → D.bk σ' H'
  | some (.ok .ct ρ') => ∀ σ' F' H' A', Go F H Z F' H' A' → Ok F' H' σ' ρ' A' → KeepS pr ρ0 σ0 σ' → D.ct σ' H'
  | some (.ok (.rt v) ρ') => ∀ σ' x F' H' A' B, Go F H Z F' H' (fun a => A' a + B a) → Ok F' H' σ' ρ' A' → Rep F' H' v.1 v.2 x B → (∀ a, A' a + B a ≤ 1) → KeepS pr ρ0 σ0 σ' → D.rt x H'
  | some (.exc c d ρ') => ∀ cls dx σ' F' H' A', Go F H Z F' H' A' → Ok F' H' σ' ρ' A' → KeepS pr ρ0 σ0 σ' → ExcRep G F' H' c d cls dx → Wx cls dx σ' H'
  | none => False
def tS (G : Glob) (Wx : WX) (pr : List Nat) (m : M Flw) : TS := fun D σ H => ∃ F A ρ, Ok F H σ ρ A ∧ AftS G Wx pr F H A σ ρ (m ρ) D
section
variable {G : Glob} {Wx : WX} {pr : List Nat} {F H F1 H1 : Hp} {A Z Z1 : Ft} {σ σ1 : L2.St} {ρ ρ1 : Sts} {D : Ends}
theorem AftS.base {r : Option (Res Flw)} (h : AftS G Wx pr F H Z σ ρ r D) (g : Go F H Z F1 H1 Z1) : AftS G Wx pr F1 H1 Z1 σ ρ r D := by
  cases r with
  | none => exact h
  | some r => cases r with
    | ok f ρ' => cases f with
      | nx => exact fun σ' F' H' A' g' => h σ' F' H' A' (g.trans g')
      | bk => exact fun σ' F' H' A' g' => h σ' F' H' A' (g.trans g')
      | ct => exact fun σ' F' H' A' g' => h σ' F' H' A' (g.trans g')
      | rt v => exact fun σ' x F' H' A' B g' => h σ' x F' H' A' B (g.trans g')
    | exc c d ρ' => exact fun cls dx σ' F' H' A' g' => h cls dx σ' F' H' A' (g.trans g')
theorem AftS.re {r : Option (Res Flw)} (h : AftS G Wx pr F H Z σ ρ r D) (ks : KeepS pr ρ σ σ1) (sm : Same ρ ρ1) : AftS G Wx pr F H Z σ1 ρ1 r D := by
  cases r with
  | none => exact h
  | some r => cases r with
    | ok f ρ' => cases f with
      | nx => exact fun σ' F' H' A' g' o k => h σ' F' H' A' g' o (ks.trans sm k)
      | bk => exact fun σ' F' H' A' g' o k => h σ' F' H' A' g' o (ks.trans sm k)
      | ct => exact fun σ' F' H' A' g' o k => h σ' F' H' A' g' o (ks.trans sm k)
      | rt v => exact fun σ' x F' H' A' B g' o r l k => h σ' x F' H' A' B g' o r l (ks.trans sm k)
    | exc c d ρ' => exact fun cls dx σ' F' H' A' g' o k => h cls dx σ' F' H' A' g' o (ks.trans sm k)
/-- an expression, then the rest -/
theorem AftS.bind {R : Rr α ξ} {m : M α} {k : α → M Flw} {Q1 : ξ → Hp → Prop} (h : AftS G Wx pr F H Z σ ρ (bnd m k ρ) D) (az : Le A Z) (st : Stay m)
    (step : ∀ a ρ1, m ρ = some (.ok a ρ1) → ∀ x F1 H1 A1 B1 Z1, Go F H A F1 H1 (fun a => A1 a + B1 a) → Ok F1 H1 σ ρ1 A1 → R F1 H1 σ ρ1 a x B1 → (∀ a, A1 a + B1 a ≤ 1) → Le A1 Z1 → Le B1 Z1 → Le Z Z1 → AftS G Wx pr F1 H1 Z1 σ ρ1 (k a ρ1) D → Q1 x H1) :
    Aft G Wx R F H A σ (m ρ) Q1 := by
  unfold bnd at h
  cases e : m ρ with
  | none => rw [e] at h; exact h
  | some r => cases r with
    | ok a ρ1 =>
      rw [e] at h
      intro x F1 H1 A1 B1 g ok1 r1 le1
      exact step a ρ1 e x F1 H1 A1 B1 (fun a => A1 a + B1 a + Z a) g ok1 r1 le1 (fun a z => by show A1 a + B1 a + Z a ≠ 0; omega) (fun a z => by show A1 a + B1 a + Z a ≠ 0; omega) (fun a z => by show A1 a + B1 a + Z a ≠ 0; omega) ((AftS.base h (g.big az)).re (.refl ..) (st _ _ _ e))
    | exc c d ρ1 =>
      rw [e] at h
      intro cls dx F1 H1 A1 g ok1 r1
      exact h cls dx σ F1 H1 A1 ((g.big az).less fun a z => by show A1 a + Z a ≠ 0; omega) ok1 (.refl ..) r1
/-- a statement's reading from a bigger base -/
theorem Ok.tS {m : M Flw} (ok : Ok F H σ ρ A) (az : Le A Z) (h : AftS G Wx pr F H Z σ ρ (m ρ) D) : tS G Wx pr m D σ H := ⟨F, A, ρ, ok, by
  generalize m ρ = r at h
  cases r with
  | none => exact h
  | some r => cases r with
    | ok f ρ' => cases f with
      | nx => exact fun σ' F' H' A' g' => h σ' F' H' A' ((g'.big az).less fun a z => by show A' a + Z a ≠ 0; omega)
      | bk => exact fun σ' F' H' A' g' => h σ' F' H' A' ((g'.big az).less fun a z => by show A' a + Z a ≠ 0; omega)
      | ct => exact fun σ' F' H' A' g' => h σ' F' H' A' ((g'.big az).less fun a z => by show A' a + Z a ≠ 0; omega)
      | rt v => exact fun σ' x F' H' A' B g' => h σ' x F' H' A' B ((g'.big az).less fun a z => by show A' a + B a + Z a ≠ 0; omega)
    | exc c d ρ' => exact fun cls dx σ' F' H' A' g' => h cls dx σ' F' H' A' ((g'.big az).less fun a z => by show A' a + Z a ≠ 0; omega)⟩
end
theorem PS_imp {X : Cx} {s : Stmt} {t t' : TS} (h : PS X s t) (i : ∀ D σ H, t' D σ H → t D σ H) : PS X s t' := ⟨fun pins s σ H D I q => h.run pins s σ H D I (i D σ H q)⟩
theorem PSs_imp {X : Cx} {s : List Stmt} {t t' : TS} (h : PSs X s t) (i : ∀ D σ H, t' D σ H → t D σ H) : PSs X s t' := ⟨fun pins s σ H D I q => h.run pins s σ H D I (i D σ H q)⟩
theorem PS_no {X : Cx} {s : Stmt} {t : TS} (h : ∀ D σ H, ¬ t D σ H) : PS X s t := ⟨fun pins s σ H D I q => (h D σ H q).elim⟩
section
variable {G : Glob} {Wx : WX} {pr : List Nat} {X : Cx}
theorem tS_stuck {D : Ends} {σ : L2.St} {H : Hp} : ¬ tS G Wx pr stuck D σ H := fun ⟨_, _, _, _, h⟩ => h
theorem s_nx {D : Ends} {σ : L2.St} {H : Hp} : tS G Wx pr (ret .nx) D σ H → tNext D σ H := fun ⟨F, A, ρ, ok, h⟩ => h σ F H A (Go.refl ..) ok (.refl ..)
theorem s_bk {D : Ends} {σ : L2.St} {H : Hp} : tS G Wx pr (ret .bk) D σ H → tBreak D σ H := fun ⟨F, A, ρ, ok, h⟩ => h σ F H A (Go.refl ..) ok (.refl ..)
theorem s_ct {D : Ends} {σ : L2.St} {H : Hp} : tS G Wx pr (ret .ct) D σ H → tCont D σ H := fun ⟨F, A, ρ, ok, h⟩ => h σ F H A (Go.refl ..) ok (.refl ..)
/-- a suite -/
theorem s_blk {S : Stmt → M Flw} (hS : ∀ s, PS X s (tS G Wx pr (S s))) (st : ∀ s, Stay (S s)) : ∀ l : List Stmt, PSs X l (tS G Wx pr (blk S l))
  | [] => PSs_imp pss_nil fun D σ H h => s_nx h
  | s :: l => PSs_imp (pss_cons (hS s) (s_blk hS st l)) fun D σ H ⟨F, A, ρ, ok, h⟩ => ⟨F, A, ρ, ok, by
    have h : AftS G Wx pr F H A σ ρ (bnd (S s) (fun f => match f with
      | .nx => blk S l
      | f => ret f) ρ) D := h
    unfold bnd at h
    cases e : S s ρ with
    | none => rw [e] at h; exact h
    | some r => cases r with
      | ok f ρ1 =>
        rw [e] at h
        cases f with
        | nx =>
          intro σ' F' H' A' g ok' ks
          exact ok'.tS (fun a z => z) ((AftS.base (show AftS G Wx pr F H A σ ρ (blk S l ρ1) D from h) g).re ks (st s _ _ _ e))
        | bk => exact h
        | ct => exact h
        | rt v => exact h
      | exc c d ρ1 => rw [e] at h; exact h⟩
/-- return e -/
theorem s_ret {e : Expr} {pos : Pos} {m : M Vl} (he : PE X e (tM G Wx RV m)) (st : Stay m) : PS X (.Return (some e) pos) (tS G Wx pr (bnd m fun v => ret (.rt v))) :=
  PS_imp (ps_ret he) fun D σ H ⟨F, A, ρ, ok, h⟩ => ⟨F, A, ρ, ok, AftS.bind h (fun _ z => z) st fun v ρ1 _ x F1 H1 A1 B1 Z1 g ok1 r1 le1 z1 z2 z3 h1 => h1 σ x F1 H1 A1 B1 ((Go.refl F1 H1 Z1).less fun a z => by have z' : A1 a + B1 a ≠ 0 := z; have := z1 a; have := z2 a; omega) ok1 r1 le1 (.refl ..)⟩
theorem s_retN {pos : Pos} : PS X (.Return none pos) (tS G Wx pr (ret (.rt (0, .none)))) :=
  PS_imp ps_retN fun D σ H ⟨F, A, ρ, ok, h⟩ => h σ .non F H A (fun _ => 0) ((Go.refl F H A).less fun a z => by have z' : A a + 0 ≠ 0 := z; omega) ok ⟨rfl, fun _ => rfl⟩ (fun a => ok.one a) (.refl ..)
/-- e -/
theorem s_expr {e : Expr} {pos : Pos} {m : M Vl} (he : PE X e (tM G Wx RV m)) (st : Stay m) (hs : swapsWith e none pos.line X.env = pure false) : PS X (.Expr e pos) (tS G Wx pr (bnd m fun _ => ret .nx)) :=
  PS_imp (ps_expr he hs) fun D σ H ⟨F, A, ρ, ok, h⟩ => ⟨F, A, ρ, ok, AftS.bind h (fun _ z => z) st fun v ρ1 _ x F1 H1 A1 B1 Z1 g ok1 r1 le1 z1 z2 z3 h1 => h1 σ F1 H1 A1 ((Go.refl F1 H1 Z1).less fun a z => z1 a z) ok1 (.refl ..)⟩
/-- if -/
theorem s_if {c : Expr} {a b : List Stmt} {pos : Pos} {mc : M Bool} {ma mb : M Flw} (hc : PT X c (tM G Wx RB mc)) (ha : PSs X a (tS G Wx pr ma)) (hb : PSs X b (tS G Wx pr mb)) (st : Stay mc) : PS X (.If c a b pos) (tS G Wx pr (cIf mc ma mb)) :=
  PS_imp (ps_if hc ha hb) fun D σ H ⟨F, A, ρ, ok, h⟩ => ⟨F, A, ρ, ok, AftS.bind h (fun _ z => z) st fun t ρ1 _ x F1 H1 A1 B1 Z1 g ok1 r1 le1 z1 z2 z3 h1 => by
    obtain ⟨rfl, z⟩ := r1
    cases x with
    | true => exact ok1.tS z1 h1
    | false => exact ok1.tS z1 h1⟩
end
end PD
end
section
/-! PD30: while. -/
namespace PD
open PySem PySem.Spec PyProof.Rows L2
section
variable {G : Glob} {Wx : WX} {pr : List Nat} {X : Cx}
/-- a turn's body, then the next turn -/
theorem AftS.turn {F H : Hp} {Z : Ft} {σ : L2.St} {ρ : Sts} {D : Ends} {mb nm : M Flw} {N : L2.St → Hp → Prop} (st : Stay mb) (h : AftS G Wx pr F H Z σ ρ (bnd mb (fun f => match f with
      | .nx => nm
      | .ct => nm
      | .bk => ret .nx
      | .rt v => ret (.rt v)) ρ) D) (hN : ∀ σ' H', tS G Wx pr nm D σ' H' → N σ' H') : AftS G Wx pr F H Z σ ρ (mb ρ) { D with nx := N, ct := N, bk := D.nx } := by
  unfold bnd at h
  cases e : mb ρ with
  | none => rw [e] at h; exact h
  | some r => cases r with
    | exc c d ρ1 => rw [e] at h; exact h
    | ok f ρ1 =>
      rw [e] at h
      have go : AftS G Wx pr F H Z σ ρ (nm ρ1) D → ∀ σ' F' H' A', Go F H Z F' H' A' → Ok F' H' σ' ρ1 A' → KeepS pr ρ σ σ' → N σ' H' := fun h σ' F' H' A' g ok ks => hN _ _ (ok.tS (fun a z => z) ((AftS.base h g).re ks (st _ _ _ e)))
      cases f with
      | nx => exact go h
      | ct => exact go h
      | bk => exact h
      | rt v => exact h
theorem s_while {c : Expr} {body : List Stmt} {pos : Pos} {mc : M Bool} {mb : M Flw} (hp : PassesOwn (model X.prog X.w) X.A X.env X.xe) (hc : PT X c (tM G Wx RB mc)) (hb : PSs X body (tS G Wx pr mb)) (st : Stay mc) (stb : Stay mb) (n : Nat) : PS X (.While c body [] pos) (tS G Wx pr (whileM mc mb n)) :=
  PS_imp (ps_while hp hc hb) fun D σ H h => ⟨fun m σ H => tS G Wx pr (whileM mc mb m) D σ H, ⟨n, h⟩, fun m σ H h => by
    cases m with
    | zero => exact (tS_stuck h).elim
    | succ m =>
      obtain ⟨F, A, ρ, ok, h⟩ := h
      refine ⟨F, A, ρ, ok, AftS.bind h (fun _ z => z) st fun t ρ1 _ x F1 H1 A1 B1 Z1 g ok1 r1 le1 z1 z2 z3 h1 => ?_⟩
      obtain ⟨rfl, z⟩ := r1
      cases x with
      | true => exact ⟨fun σ' H' => tS G Wx pr (whileM mc mb m) D σ' H', fun σ' H' h => ⟨m, Nat.lt_succ_self m, h⟩, ok1.tS z1 (AftS.turn stb h1 fun _ _ h => h)⟩
      | false => exact h1 σ F1 H1 A1 ((Go.refl F1 H1 Z1).less fun a z => z1 a z) ok1 (.refl ..)⟩
end
end PD
end
section
/-! PD31: stores. -/
namespace PD
open PySem PySem.Spec PyProof.Rows L2
variable {α β : Type}
theorem store_exc {pr : List Nat} {i : Nat} {v : Vl} {ρ ρ' : Sts} {c : PySem.Str} {d : PyData} : store pr i v ρ ≠ some (.exc c d ρ') := fun h => by
  unfold store at h
  split at h
  · cases h
  · split at h <;> cases h
mutual
theorem asgn_exc {st : PySem.Str → Option Nat} {pr : List Nat} : ∀ (t : Expr) (v : Vl) (ρ ρ' : Sts) (c : PySem.Str) (d : PyData), asgn st pr t v ρ ≠ some (.exc c d ρ') := fun t v ρ ρ' c d h => by
  cases t with
  | Name x p =>
    have h : (match st x with
      | some i => store pr i v
      | none => stuck) ρ = _ := h
    cases e : st x with
    | none => rw [e] at h; cases h
    | some i => rw [e] at h; exact store_exc h
  | Tuple ts k p =>
    have h : (match v.2 with
      | .tuple xs => if noStar ts then asgns st pr ts (v.1 - 1) xs else stuck
      | _ => stuck) ρ = _ := h
    obtain ⟨n, dd⟩ := v
    cases dd with
    | tuple xs =>
      by_cases q : noStar ts = true
      · simp only [q, if_true] at h
        exact asgns_exc ts _ _ _ _ _ _ h
      · simp only [q] at h
        cases h
    | _ => cases h
  | _ => cases h
theorem asgns_exc {st : PySem.Str → Option Nat} {pr : List Nat} : ∀ (ts : List Expr) (k : Nat) (xs : List PyData) (ρ ρ' : Sts) (c : PySem.Str) (d : PyData), asgns st pr ts k xs ρ ≠ some (.exc c d ρ')
  | [], _, [], _, _, _, _, h => by cases h
  | [], _, _ :: _, _, _, _, _, h => by cases h
  | _ :: _, _, [], _, _, _, _, h => by cases h
  | t :: ts, k, x :: xs, ρ, ρ', c, d, h => by
    have h : bnd (asgn st pr t (k, x)) (fun _ => asgns st pr ts k xs) ρ = _ := h
    unfold bnd at h
    cases e : asgn st pr t (k, x) ρ with
    | none => rw [e] at h; cases h
    | some r => cases r with
      | ok u ρ1 => rw [e] at h; exact asgns_exc ts k xs ρ1 ρ' c d h
      | exc c' d' ρ1 => exact asgn_exc t (k, x) _ _ _ _ e
end
section
variable {G : Glob} {Wx : WX} {pr : List Nat} {X : Cx} {st : PySem.Str → Option Nat}
/-- a store, then the rest -/
theorem AftS.store {F H : Hp} {A B Z : Ft} {σ : L2.St} {ρ : Sts} {D : Ends} {tg : Expr} {vl : Vl} {v : V} {m : M Flw} {Q : L2.St → Hp → Prop} (h : AftS G Wx pr F H Z σ ρ (bnd (asgn st pr tg vl) (fun _ => m) ρ) D) (ok : Ok F H σ ρ A) (r : Rep F H vl.1 vl.2 v B) (le : ∀ a, A a + B a ≤ 1) (az : Le A Z) (bz : Le B Z)
    (hQ : ∀ σ', tS G Wx pr m D σ' H → Q σ' H) : gA st pr tg v σ H Q := by
  refine ⟨F, A, B, ρ, vl, ok, r, le, ?_⟩
  unfold bnd at h
  cases e : asgn st pr tg vl ρ with
  | none => rw [e] at h; exact h
  | some r => cases r with
    | exc c d ρ1 => exact (asgn_exc _ _ _ _ _ _ e).elim
    | ok u ρ1 =>
      rw [e] at h
      intro σ' A' la ok' hl unt ks sm
      refine hQ σ' (ok'.tS (Z := Z) (fun a z => ?_) (h.re ⟨hl, fun i hi => unt i fun z => z.2 hi, ks⟩ sm))
      have := la a
      by_cases q : A a = 0
      · exact bz a (by omega)
      · exact az a q
/-- target = e -/
theorem s_asg {tg e : Expr} {pos : Pos} {m : M Vl} (hc : X.calm = true) (hN : X.N.Nodup) (so : StOk X st) (he : PE X e (tM G Wx RV m)) (sm : Stay m) (hs : swapsWithSole [tg] e pos.line X.env = pure false) (hw : swappedStores [tg] e X.env = pure none) (h1 : (assignEach [tg] X.env).map (·.2) = [assign tg X.env]) :
    PS X (.Assign [tg] e pos) (tS G Wx pr (nxt (bnd m fun v => asgn st pr tg v))) :=
  PS_imp (ps_asg he (g_tgt (st := st) (pr := pr) hc hN so tg) hs hw h1) fun D σ H ⟨F, A, ρ, ok, h⟩ => ⟨F, A, ρ, ok, AftS.bind (Q1 := fun x H1 => gA st pr tg x σ H1 D.nx) (by
    have h : AftS G Wx pr F H A σ ρ (bnd (bnd m fun v => asgn st pr tg v) (fun _ => ret .nx) ρ) D := h
    rw [bnd_bnd] at h
    exact h) (fun _ z => z) sm fun v ρ1 _ x F1 H1 A1 B1 Z1 g ok1 r1 le1 z1 z2 z3 h1 => h1.store ok1 r1 le1 z1 z2 fun σ' h => s_nx h⟩
end
end PD
end
section
/-! PD32: for. -/
namespace PD
open PySem PySem.Spec PyProof.Rows L2
variable {α β : Type}
section
variable {G : Glob} {Wx : WX} {pr : List Nat} {X : Cx}
/-- behind the loop -/
theorem for_exit {σ σi : L2.St} {ρ1 ρi ρ2 : Sts} {F1 H1 Hl F H : Hp} {Z1 A Z : Ft} {W : Walk} {lk : Lk} (lko : LkOk X σ ρ1 F1 H1 Hl W lk) (ro : RoOk σ ρ1 W lk) (ok : Ok F H σi ρi A) (g : Go F1 Hl Z1 F H Z) (az : Le A Z) (ks : KeepS pr ρ1 σ σi) (sm : Same ρ1 ρi) (hu : unroS ρi W.ro = some ρ2) :
    UL X H lk ∧ Ok F (ul lk H) σi ρ2 A ∧ Go F1 H1 Z1 F (ul lk H) Z := by
  have u := lko.ul g
  have ls : ∀ d od v, lk = some (d, od, v) → LSrc F σi ρi d v := fun d od v e => (lko.src d od v e).keep (g.less (B := A) az) ok sm ks.ro
  exact ⟨u, unro_ok (ok.unlock u ls) (ro_exact ro sm ks.ro u) hu, g.unlock lko⟩
/-- a value beside -/
theorem for_rep {σ σi : L2.St} {ρ1 ρi : Sts} {F1 H1 Hl F H : Hp} {Z1 A B Z : Ft} {W : Walk} {lk : Lk} {v : Vl} {x : V} (lko : LkOk X σ ρ1 F1 H1 Hl W lk) (ok : Ok F H σi ρi A) (g : Go F1 Hl Z1 F H Z) (az : Le A Z) (ks : KeepS pr ρ1 σ σi) (sm : Same ρ1 ρi) (r : Rep F H v.1 v.2 x B) (le : ∀ a, A a + B a ≤ 1) :
    Rep F (ul lk H) v.1 v.2 x B := by
  cases lk with
  | none => exact r
  | some p =>
    obtain ⟨d, od, u⟩ := p
    have ls : LSrc F σi ρi d u := (lko.src d od u rfl).keep (g.less (B := A) az) ok sm ks.ro
    have b0 := ls.apart ok le fun a z => Rep.free _ _ _ _ r a z
    exact Rep.mono _ _ _ _ ⟨Sub.refl F, fun a z => upd_ne fun e => z (e ▸ b0), fun a z f => f⟩ r
end
end PD
end
section
/-! PD33: for. -/
namespace PD
open PySem PySem.Spec PyProof.Rows L2
variable {α β : Type}
/-- the rest of a loop -/
def forK (W : Walk) (tg : PyData → M Unit) (body : M Flw) (l : List PyData) : M Flw := bnd (noX W.lk (forM tg body l)) fun f => bnd (unwalk W) fun _ => ret f
theorem forK_end {W : Walk} {tg : PyData → M Unit} {body : M Flw} {l : List PyData} {ρ ρb : Sts} {f : Flw} (h : forM tg body l ρ = some (.ok f ρb)) (n : forK W tg body l ρ ≠ none) : ∃ ρ2, unroS ρb W.ro = some ρ2 ∧ forK W tg body l ρ = some (.ok f ρ2) := by
  unfold forK bnd noX unwalk at n ⊢
  rw [h] at n ⊢
  dsimp only at n ⊢
  cases e : unroS ρb W.ro with
  | none => rw [e] at n; exact absurd rfl n
  | some ρ2 => exact ⟨ρ2, rfl, rfl⟩
theorem forK_exc {W : Walk} {tg : PyData → M Unit} {body : M Flw} {l : List PyData} {ρ ρb : Sts} {c : PySem.Str} {d : PyData} (h : forM tg body l ρ = some (.exc c d ρb)) (n : forK W tg body l ρ ≠ none) : W.lk = false ∧ forK W tg body l ρ = some (.exc c d ρb) := by
  unfold forK bnd noX at n ⊢
  rw [h] at n ⊢
  cases e : W.lk with
  | true => rw [e] at n; exact absurd rfl n
  | false => exact ⟨rfl, rfl⟩
theorem forK_cong {W : Walk} {tg : PyData → M Unit} {body : M Flw} {l l' : List PyData} {ρ ρ' : Sts} (h : forM tg body l ρ = forM tg body l' ρ') : forK W tg body l ρ = forK W tg body l' ρ' := by
  unfold forK bnd noX
  rw [h]
section
variable {G : Glob} {Wx : WX} {pr : List Nat} {X : Cx} {st : PySem.Str → Option Nat}
theorem forK_none {W : Walk} {tg : PyData → M Unit} {body : M Flw} {l : List PyData} {ρ : Sts} (h : forM tg body l ρ = none) : forK W tg body l ρ = none := by
  unfold forK bnd noX
  rw [h]
/-- one turn's end, seen from the body -/
theorem for_turn {σ σ2 : L2.St} {ρ1 ρa : Sts} {F1 H1 Hl F' H' : Hp} {Z1 A2 Z : Ft} {W : Walk} {lk : Lk} {D : Ends} {mb : M Flw} {tg : PyData → M Unit} {l : List PyData} {r : Option (Res Flw)} {N : L2.St → Hp → Prop}
    (lko : LkOk X σ ρ1 F1 H1 Hl W lk) (ro : RoOk σ ρ1 W lk) (ok : Ok F' H' σ2 ρa A2) (g : Go F1 Hl Z1 F' H' Z) (az : Le A2 Z) (ks : KeepS pr ρ1 σ σ2) (sm : Same ρ1 ρa) (sb : Stay mb)
    (h : AftS G Wx pr F1 H1 Z1 σ ρ1 r D)
    (run : ∀ f ρb, mb ρa = some (.ok f ρb) → (match f with
      | .nx => ∀ σ' F'' H'' A'', Go F1 Hl Z1 F'' H'' (fun a => A'' a + Z a) → Ok F'' H'' σ' ρb A'' → KeepS pr ρ1 σ σ' → Same ρ1 ρb → N σ' H''
      | .ct => ∀ σ' F'' H'' A'', Go F1 Hl Z1 F'' H'' (fun a => A'' a + Z a) → Ok F'' H'' σ' ρb A'' → KeepS pr ρ1 σ σ' → Same ρ1 ρb → N σ' H''
      | .bk => ∃ ρ2, unroS ρb W.ro = some ρ2 ∧ r = some (.ok .nx ρ2)
      | .rt v => ∃ ρ2, unroS ρb W.ro = some ρ2 ∧ r = some (.ok (.rt v) ρ2)))
    (rx : ∀ c d ρb, mb ρa = some (.exc c d ρb) → W.lk = false ∧ r = some (.exc c d ρb)) (nn : mb ρa ≠ none) : AftS G Wx pr F' H' A2 σ2 ρa (mb ρa) { unl X D with nx := N, ct := N, bk := (unl X D).nx } := by
  cases e : mb ρa with
  | none => exact absurd e nn
  | some q => cases q with
    | exc c d ρb =>
      obtain ⟨e1, e2⟩ := rx c d ρb e
      subst e2
      intro cls dx σ' F'' H'' A'' g'' ok'' ks'' er
      cases lk with
      | some p =>
        obtain ⟨d', od, u⟩ := p
        rw [lko.1] at e1; cases e1
      | none =>
        have eH : Hl = H1 := lko
        subst eH
        exact h cls dx σ' F'' H'' A'' (g.trans ((g''.big az).less fun a z => by show A'' a + Z a ≠ 0; omega)) ok'' (ks.trans sm ks'') er
    | ok f ρb =>
      have smb := sm.trans (sb _ _ _ e)
      have rn := run f ρb e
      cases f with
      | nx => exact fun σ' F'' H'' A'' g'' ok'' ks'' => rn σ' F'' H'' A'' (g.trans (g''.big az)) ok'' (ks.trans sm ks'') smb
      | ct => exact fun σ' F'' H'' A'' g'' ok'' ks'' => rn σ' F'' H'' A'' (g.trans (g''.big az)) ok'' (ks.trans sm ks'') smb
      | bk =>
        obtain ⟨ρ2, hu, er⟩ := rn
        subst er
        intro σ' F'' H'' A'' g'' ok'' ks''
        obtain ⟨u, o, gg⟩ := for_exit lko ro ok'' (g.trans (g''.big az)) (fun a z => by show A'' a + Z a ≠ 0; omega) (ks.trans sm ks'') smb hu
        exact ⟨lk, u, h σ' F'' _ A'' (gg.less fun a z => by show A'' a + Z a ≠ 0; omega) o (ks.trans sm ks'')⟩
      | rt v =>
        obtain ⟨ρ2, hu, er⟩ := rn
        subst er
        intro σ' x F'' H'' A'' B g'' ok'' rr le ks''
        have g3 := g.trans (g''.big az)
        obtain ⟨u, o, gg⟩ := for_exit lko ro ok'' g3 (fun a z => by show A'' a + B a + Z a ≠ 0; omega) (ks.trans sm ks'') smb hu
        exact ⟨lk, u, h σ' x F'' _ A'' B (gg.less fun a z => by have z' : A'' a + B a ≠ 0 := z; show A'' a + B a + Z a ≠ 0; omega) o (for_rep lko ok'' g3 (fun a z => by show A'' a + B a + Z a ≠ 0; omega) (ks.trans sm ks'') smb rr le) le (ks.trans sm ks'')⟩
end
end PD
end
section
/-! PD34: for, whole. -/
namespace PD
open PySem PySem.Spec PyProof.Rows L2
section
variable {G : Glob} {Wx : WX} {pr : List Nat} {X : Cx} {st : PySem.Str → Option Nat}
theorem s_for {tg it : Expr} {body : List Stmt} {pos : Pos} {w : M Walk} {mb : M Flw} (hp : PassesOwn (model X.prog X.w) X.A X.env X.xe) (hc : X.calm = true) (hN : X.N.Nodup) (so : StOk X st) (hw : WOk G Wx X tg it w) (hb : PSs X body (tS G Wx pr mb)) (hs : ∀ x, foldedSetIterable it X.env x = pure x) (sw : WStay w) (sb : Stay mb) :
    PS X (.For tg it body [] pos) (tS G Wx pr (cFor w (fun x => asgn st pr tg (0, x)) mb)) := by
  obtain ⟨wi, pi, run⟩ := hw
  refine PS_imp (ps_free (ps_for hp hc pi (g_tgt (st := st) (pr := pr) hc hN so tg) hb hs)) fun D σ H ⟨F, A, ρ, okk, h⟩ => ?_
  have h : AftS G Wx pr F H A σ ρ (bnd w (fun W => forK W (fun x => asgn st pr tg (0, x)) mb W.xs) ρ) D := h
  refine run (R' := fun _ _ _ _ _ (_ : Unit) _ => True) (k := fun W => ret W) (Q := fun _ _ => True) okk (fun a z => z) ?_ ?_
  · unfold bnd at h ⊢
    cases e : w ρ with
    | none => rw [e] at h; exact h
    | some r => cases r with
      | ok W ρ1 => exact fun _ _ _ _ _ _ _ _ _ => trivial
      | exc c d ρ1 =>
        rw [e] at h
        exact fun cls dx F' H' A' g ok er => h cls dx σ F' H' A' g ok (.refl ..) er
  · intro W J KI lk F1 H1 Hl A1 Z1 ρ1 e wk go ok1 lko okl ki ro az zz _
    rw [bnd_run e] at h
    have h : AftS G Wx pr F1 H1 (fun a => A1 a + A a) σ ρ1 (forK W (fun x => asgn st pr tg (0, x)) mb W.xs ρ1) D := (h.base (go.big fun a z => z)).re (.refl ..) (sw _ _ _ e).1
    generalize hr : forK W (fun x => asgn st pr tg (0, x)) mb W.xs ρ1 = r at h
    have nn : r ≠ none := fun z => by rw [z] at h; exact h
    refine ⟨fun i m σi H => m = W.xs.length - i ∧ i ≤ W.xs.length ∧ ∃ F A' Z ρi, Ok F H σi ρi A' ∧ KI F H σi ρi ∧ Go F1 Hl (fun a => A1 a + A a) F H Z ∧ Le A' Z ∧ KeepS pr ρ1 σ σi ∧ Same ρ1 ρi ∧ forK W (fun x => asgn st pr tg (0, x)) mb (W.xs.drop i) ρi = r,
      ⟨W.xs.length, by simp, Nat.zero_le _, F1, A1, _, ρ1, okl, ki, Go.refl .., fun a z => by show A1 a + A a ≠ 0; omega, .refl .., .refl _, hr⟩, ?_⟩
    rintro i m σi H ⟨rfl, hi, F, A', Z, ρi, ok, kii, g, az', ks, sm, er⟩
    by_cases hlt : i < W.xs.length
    · obtain ⟨d, hdi⟩ : ∃ d, W.xs[i]? = some d := ⟨_, List.getElem?_eq_getElem hlt⟩
      have hdrop : W.xs.drop i = d :: W.xs.drop (i + 1) := by
        rw [List.drop_eq_getElem_cons hlt]
        rw [List.getElem?_eq_getElem hlt] at hdi
        rw [Option.some.inj hdi]
      rw [hdrop] at er
      refine .inr ⟨wk.go i _ _ _ _ _ ok kii hlt, fun σ' H' => ∃ m', m' < W.xs.length - i ∧ m' = W.xs.length - (i + 1) ∧ i + 1 ≤ W.xs.length ∧ ∃ F A' Z ρi, Ok F H' σ' ρi A' ∧ KI F H' σ' ρi ∧ Go F1 Hl (fun a => A1 a + A a) F H' Z ∧ Le A' Z ∧ KeepS pr ρ1 σ σ' ∧ Same ρ1 ρi ∧ forK W (fun x => asgn st pr tg (0, x)) mb (W.xs.drop (i + 1)) ρi = r, fun σ' H' n => n, fun x H' y => ?_⟩
      obtain ⟨F', g1, ok', fz⟩ := wk.yld i _ _ _ _ _ d x H' ok kii hdi y
      refine ⟨F', A', fun _ => 0, ρi, (0, d), ok', ⟨fz, fun _ => rfl⟩, fun a => by have := ok'.one a; omega, ?_⟩
      have hf : forM (fun x => asgn st pr tg (0, x)) mb (d :: W.xs.drop (i + 1)) ρi = bnd (asgn st pr tg (0, d)) (fun _ => bnd mb fun f => match f with
        | .nx => forM (fun x => asgn st pr tg (0, x)) mb (W.xs.drop (i + 1))
        | .ct => forM (fun x => asgn st pr tg (0, x)) mb (W.xs.drop (i + 1))
        | .bk => ret .nx
        | .rt v => ret (.rt v)) ρi := rfl
      cases ea : asgn st pr tg (0, d) ρi with
      | none =>
        refine absurd ?_ nn
        rw [← er]
        exact forK_none (by rw [hf]; unfold bnd; rw [ea])
      | some q => cases q with
        | exc c d' ρ' => exact (asgn_exc _ _ _ _ _ _ ea).elim
        | ok u ρa =>
          rw [bnd_run ea] at hf
          intro σ2 A2 la ok2 hl unt kro sm2
          have ks2 : KeepS pr ρi σi σ2 := ⟨hl, fun j hj => unt j fun z => z.2 hj, kro⟩
          have g2 : Go F1 Hl (fun a => A1 a + A a) F' H' (fun a => A' a + Z a) := g.trans (g1.big az')
          refine ⟨F', A2, ρa, ok2, for_turn (l := []) (tg := fun x => asgn st pr tg (0, x)) lko ro ok2 g2 (fun a z => by have : A2 a ≤ A' a + 0 := la a; show A' a + Z a ≠ 0; omega) (ks.trans sm ks2) (sm.trans sm2) sb h (fun f ρb em => ?_) (fun c d' ρb em => ?_) (fun em => ?_)⟩
          · have hk : ∀ {σ' F'' H'' A''}, Go F1 Hl (fun a => A1 a + A a) F'' H'' (fun a => A'' a + (A' a + Z a)) → Ok F'' H'' σ' ρb A'' → KeepS pr ρ1 σ σ' → Same ρ1 ρb → KI F'' H'' σ' ρb := fun g o k s => wk.keep _ _ _ _ _ _ _ _ _ _ ki g s k.ro
            rw [bnd_run em] at hf
            cases f with
            | nx => exact fun σ' F'' H'' A'' g3 o3 k3 s3 => ⟨_, by omega, rfl, by omega, F'', A'', _, ρb, o3, hk g3 o3 k3 s3, g3, fun a z => by show A'' a + (A' a + Z a) ≠ 0; omega, k3, s3, (forK_cong hf).symm.trans er⟩
            | ct => exact fun σ' F'' H'' A'' g3 o3 k3 s3 => ⟨_, by omega, rfl, by omega, F'', A'', _, ρb, o3, hk g3 o3 k3 s3, g3, fun a z => by show A'' a + (A' a + Z a) ≠ 0; omega, k3, s3, (forK_cong hf).symm.trans er⟩
            | bk =>
              obtain ⟨ρ2, hu, e2⟩ := forK_end (W := W) hf (by rw [er]; exact nn)
              exact ⟨ρ2, hu, er.symm.trans e2⟩
            | rt v =>
              obtain ⟨ρ2, hu, e2⟩ := forK_end (W := W) hf (by rw [er]; exact nn)
              exact ⟨ρ2, hu, er.symm.trans e2⟩
          · unfold bnd at hf
            rw [em] at hf
            obtain ⟨e1, e2⟩ := forK_exc (W := W) hf (by rw [er]; exact nn)
            exact ⟨e1, er.symm.trans e2⟩
          · unfold bnd at hf
            rw [em] at hf
            exact nn (er.symm.trans (forK_none hf))
    · refine .inl ⟨wk.stop i _ _ _ _ _ ok kii (by omega), ?_⟩
      rw [List.drop_eq_nil_of_le (by omega)] at er
      obtain ⟨ρ2, hu, e2⟩ := forK_end (W := W) (tg := fun x => asgn st pr tg (0, x)) (body := mb) (l := []) (ρ := ρi) (f := .nx) rfl (by rw [er]; exact nn)
      rw [er] at e2
      subst e2
      obtain ⟨u, o, gg⟩ := for_exit lko ro ok g az' ks sm hu
      exact ⟨lk, u, h σi F _ A' (gg.less az') o ks⟩
end
end PD
end
section
/-! PD35: x[i] = e, x op= e, x[i] op= e. -/
namespace PD
open PySem PySem.Spec PyProof.Rows L2
theorem mSet_exc {i : Nat} {dj : PyData} {v : Vl} {ρ ρ' : Sts} {c : PySem.Str} {d : PyData} : mSet i dj v ρ ≠ some (.exc c d ρ') := fun h => by
  unfold mSet at h
  split at h
  · split at h
    · split at h <;> cases h
    · cases h
  · split at h <;> cases h
  · cases h
section
variable {G : Glob} {Wx : WX} {pr : List Nat} {X : Cx} {cx : Ctx} {F H : Hp} {A Z : Ft} {σ : L2.St} {ρ : Sts} {D : Ends} {st : PySem.Str → Option Nat}
theorem AftS.slot {j : Nat} {k : Opd → M Flw} (h : AftS G Wx pr F H Z σ ρ (bnd (slotO j) k ρ) D) (ok : Ok F H σ ρ A) : ∃ x, σ[j]? = some (some x) ∧ AftS G Wx pr F H Z σ ρ (k (.s j) ρ) D := by
  unfold bnd slotO at h
  cases e : rdS ρ j with
  | none => simp only [e] at h; exact (h : False).elim
  | some d =>
    simp only [e] at h
    obtain ⟨x, ex, _⟩ := ok.at e
    exact ⟨x, ex, h⟩
theorem AftS.peek {o : Opd} {k : PyData → M Flw} (h : AftS G Wx pr F H Z σ ρ (bnd (peek o) k ρ) D) : ∃ d, rsv o ρ = some d ∧ AftS G Wx pr F H Z σ ρ (k d ρ) D := by
  unfold bnd PD.peek at h
  cases e : rsv o ρ with
  | none => rw [e] at h; exact (h : False).elim
  | some d => rw [e] at h; exact ⟨d, rfl, h⟩
theorem AftS.lif {α : Type} {o : Option α} {k : α → M Flw} (h : AftS G Wx pr F H Z σ ρ (bnd (lif o) k ρ) D) : ∃ a, o = some a ∧ AftS G Wx pr F H Z σ ρ (k a ρ) D := by
  cases o with
  | none => exact (h : False).elim
  | some a => exact ⟨a, rfl, h⟩
/-- x[i] = v at the end of a statement -/
theorem AftS.mset {B Y : Ft} {i : Nat} {dj : PyData} {v : Vl} {x jv y : V} (h : AftS G Wx pr F H Z σ ρ (bnd (mSet i dj v) (fun _ => ret .nx) ρ) D) (ok : Ok F H σ ρ A) (ex : σ[i]? = some (some x)) (hj : DR H dj jv) (r : Rep F H v.1 v.2 y B) (le : ∀ a, A a + B a ≤ 1) (az : Le A Z) (bz : Le B Z) :
    rSetP x jv y H (fun H' => D.nx σ H') := by
  unfold bnd at h
  cases em : mSet i dj v ρ with
  | none => rw [em] at h; exact (h : False).elim
  | some q => cases q with
    | exc cc dd ρ3 => exact (mSet_exc em).elim
    | ok u ρ3 =>
      rw [em] at h
      exact mSet_ok ok em ex hj r le fun F' H' A' g ok' => h σ F' H' A' ((g.big (Z := Z) (fun a z => by
        have z' : A a + B a ≠ 0 := z
        by_cases q : A a = 0
        · exact bz a (by omega)
        · exact az a q)).less fun a z => by show A' a + Z a ≠ 0; omega) ok' (.refl ..)
theorem s_sub (z : Cz X) (c : Cxt G X cx) {x : PySem.Str} {j : Nat} {p p2 pos : Pos} {i e : Expr} {m : M Vl} {mi : M Opd} (hj : slotOf cx x = some j) (he : PE X e (tM G Wx RV m)) (hi : PE X i (tM G Wx RO mi)) (sm : Stay m) (si : Stay mi)
    (hs : swapsWithSole [.Subscript (.Name x p) i p2] e pos.line X.env = pure false) (hw : swappedStores [.Subscript (.Name x p) i p2] e X.env = pure none)
    (ha : ∀ v, assign (.Subscript (.Name x p) i p2) X.env v = (do
      let ov ← holding [v] (eval (.Name x p) X.env)
      let iv ← holding [v, ov] (eval i X.env)
      standAt p2
      holding [v, ov, iv] (setItem ov iv v)
      release [v, ov, iv] [])) :
    PS X (.Assign [.Subscript (.Name x p) i p2] e pos) (tS G Wx pr (nxt (bnd m fun v => bnd (slotO j) fun _ => bnd mi fun o => bnd (peek o) fun di => mSet j di v))) := by
  refine PS_imp (ps_asg he (pg_sub (pe_slot c hj) hi (set_P (by have := z.un; omega)) ha) hs hw) fun D σ H ⟨F, A, ρ, ok, h⟩ => ?_
  have h : AftS G Wx pr F H A σ ρ (bnd (bnd m fun v => bnd (slotO j) fun _ => bnd mi fun o => bnd (peek o) fun di => mSet j di v) (fun _ => ret .nx) ρ) D := h
  rw [bnd_bnd] at h
  refine ⟨F, A, ρ, ok, AftS.bind h (fun _ z => z) sm fun v ρ1 _ y F1 H1 A1 B1 Z1 g1 ok1 r1 le1 y1 y2 y3 h1 => ?_⟩
  rw [bnd_bnd] at h1
  obtain ⟨xv, ex, h1⟩ := h1.slot ok1
  rw [bnd_bnd] at h1
  refine ⟨xv, ex, F1, A1, ρ1, ok1, AftS.bind h1 y1 si fun o ρ2 _ iv F2 H2 A2 B2 Z2 g2 ok2 r2 le2 w1 w2 w3 h2 => ?_⟩
  rw [bnd_bnd] at h2
  have ap : ∀ a, B1 a ≠ 0 → A1 a = 0 := fun a z => by have := le1 a; omega
  have ry := Rep.mono _ _ _ _ (g2.kp (fun a z => Rep.live _ _ _ _ r1 a z) ap) r1
  have apart := g2.apart (fun a z => Rep.live _ _ _ _ r1 a z) ap
  obtain ⟨di, ed, h2⟩ := h2.peek
  refine h2.mset (Y := Z2) ok2 ex (ok2.opd r2 ed) ry (fun a => ?_) w1 fun a q => w3 a (y2 a q)
  by_cases q : B1 a = 0
  · have := le2 a; omega
  · have := apart a q; have := le1 a; omega
theorem gA_name {x : PySem.Str} {p : Pos} {i : Nat} {v : V} {Q : L2.St → Hp → Prop} (hx : st x = some i) (h : gA st pr (.Name x p) v σ H Q) : Q (σ.set i (some v)) H := by
  obtain ⟨F, A, B, ρ, vl, ok, r, le, h⟩ := h
  have h : AftG F H A B σ ρ (Tch st pr) ((match st x with
    | some i => store pr i vl
    | none => stuck) ρ) Q := h
  rw [hx] at h
  exact store_ok' ok r le hx h
theorem augOp_int {op : Operator} {a b : PyData} {v : Vl} (h : augOp op a b = some v) : ∃ i j k, a = .int i ∧ b = .int j ∧ v = (0, .int k) := by
  unfold augOp at h
  split at h
  · split at h
    · cases h; exact ⟨_, _, _, rfl, rfl, rfl⟩
    · unfold numOp at h
      simp only at h
      split at h
      · cases h; exact ⟨_, _, _, rfl, rfl, rfl⟩
      · split at h <;> cases h
        exact ⟨_, _, _, rfl, rfl, rfl⟩
      · split at h <;> cases h
        exact ⟨_, _, _, rfl, rfl, rfl⟩
      · split at h <;> cases h
        exact ⟨_, _, _, rfl, rfl, rfl⟩
      · split at h <;> cases h
        exact ⟨_, _, _, rfl, rfl, rfl⟩
      · cases h
  · cases h
/-- the operation of op=, by its pure step -/
theorem aug_rd {op : Operator} {i1 i2 : Int} {v : Vl} {Q : VK} (ok : Ok F H σ ρ A) (e : augOp op (.int i1) (.int i2) = some v) (h : ∀ z F' H' B', Go F H (fun _ => 0) F' H' B' → Ok F' H' σ ρ A → Rep F' H' v.1 v.2 z B' → (∀ a, A a + B' a ≤ 1) → Q z H') : rN (augOp op) (.int i1) (.int i2) H Q :=
  ⟨F, .int i1, .int i2, v, ok.fok, rfl, rfl, e, fun z F' H' B' g fk r le => by
    obtain ⟨ok', le'⟩ := ok.beside g fk le
    exact h z F' H' B' g ok' r le'⟩
theorem s_aug (hN : X.N.Nodup) (so : StOk X st) {x : PySem.Str} {i : Nat} (hx : st x = some i) {op : Operator} {e : Expr} {p pos : Pos} {m : M Vl} (he : PE X e (tM G Wx RV m)) (sm : Stay m) : PS X (.AugAssign (.Name x p) op e pos) (tS G Wx pr (nxt (cAug pr i op m))) := by
  obtain ⟨h1, h2, h3⟩ := so.at_ x i hx
  refine PS_imp (ps_aug hN h1 h2 he (iop_numP op) h3) fun D σ H ⟨F, A, ρ, ok, h⟩ => ?_
  have h : AftS G Wx pr F H A σ ρ (bnd (cAug pr i op m) (fun _ => ret .nx) ρ) D := h
  unfold cAug at h
  rw [bnd_bnd] at h
  obtain ⟨a, ea, h⟩ := h.peek
  obtain ⟨xv, ex, dr⟩ := ok.at (show rdS ρ i = some a from ea)
  rw [bnd_bnd] at h
  refine ⟨xv, ex, F, A, ρ, ok, AftS.bind h (fun _ z => z) sm fun b ρ1 _ y F1 H1 A1 B1 Z1 g1 ok1 r1 le1 z1 z2 z3 h1 => ?_⟩
  rw [bnd_bnd] at h1
  obtain ⟨v, ev, h2⟩ := h1.lif
  clear h1
  obtain ⟨kb, db⟩ := b
  obtain ⟨i1, i2, i3, rfl, e2, rfl⟩ := augOp_int ev
  have e2 : db = .int i2 := e2
  subst e2
  obtain rfl : xv = .int i1 := dr
  have fy : y = .int i2 := (Rep.fz_imm kb (.int i2) y B1 rfl r1).1
  subst fy
  refine aug_rd ok1 ev fun z F' H' B' g ok' r le => ?_
  have h3 := h2.base (g.big fun a q => absurd rfl q)
  have es : (store pr i (0, .int i3) : M Unit) = asgn st pr (.Name x p) (0, .int i3) := by
    show _ = (match st x with
      | some i => store pr i (0, .int i3)
      | none => stuck)
    rw [hx]
  have h4 : AftS G Wx pr F' H' (fun a => B' a + Z1 a) σ ρ1 (bnd (asgn st pr (.Name x p) (0, .int i3)) (fun _ => ret .nx) ρ1) D := by rw [← es]; exact h3
  exact gA_name hx (h4.store ok' r le (fun a q => by have := z1 a q; show B' a + Z1 a ≠ 0; omega) (fun a q => by show B' a + Z1 a ≠ 0; omega) fun σ' h => s_nx h)

/-- x[i], a number, by values -/
def rGi : V → V → Hp → VK → Prop := fun x y H Q => ∃ d i n, DR H d x ∧ DR H i y ∧ itemOf d i = some (.int n) ∧ isLD d = true ∧ Q (.int n) H
theorem DRs.get {H : Hp} : ∀ {xs : List PyData} {vs : List V} {k : Nat} {x : PyData} {v : V}, DRs H xs vs → xs[k]? = some x → vs[k]? = some v → DR H x v
  | [], _, _, _, _, _, h, _ => by simp at h
  | y :: ys, _, 0, x, v, ⟨w, r, e, a, b⟩, h, h' => by
    subst e
    simp at h h'
    subst h h'
    exact a
  | y :: ys, _, k + 1, x, v, ⟨w, r, e, a, b⟩, h, h' => by
    subst e
    exact DRs.get b (by simpa using h) (by simpa using h')
theorem get_P (z : Cz X) : PGet X rGi := by
  intro pins s σ H x y v u Q I rx ry ⟨d, i, n, hx, hy, e, hl, q⟩
  have hu : X.A.units + 1 < cLine := by have := z.un; omega
  unfold itemOf at e
  split at e
  · split at e
    · rename_i j
      obtain ⟨a, vs, rfl, h1, h2⟩ := hx
      cases (show y = _ from hy)
      rw [atD_atI] at e
      obtain ⟨k, y, ey, kx, ky⟩ := atI_len (h2.len.symm) j e
      obtain rfl : y = .int n := DRs.get h2 kx ky
      cases rx
      obtain ⟨t, rfl⟩ := ry
      obtain ⟨its, r, pl, hz⟩ := I.list (.inl h1)
      obtain ⟨j', h1, h2, h3, h4, h5⟩ := atI_get ey
      obtain ⟨w, ew, rw'⟩ := r.get h2
      have hl := r.length
      have hn := line63
      have fin : EP X pins σ Q w s := ⟨.int n, H, I, rw', q⟩
      by_cases h0 : 0 ≤ j
      · have hj : j.toNat = j' := by
          rw [seqIndex_of h0 h5] at h1
          exact Option.some.inj h1
        exact wpAny_getItem_list pl.isList h0 (by omega) (by rw [hj]; simpa using ew) fin
      · have hj : (j + (its.toArray.size : Int)).toNat = j' := by
          rw [seqIndex_neg (by omega) h4] at h1
          rw [List.size_toArray, ← hl]
          exact Option.some.inj h1
        exact wpAny_getItem_list_neg pl.isList (by omega) (by rw [List.size_toArray] <;> omega) (by omega) (by rw [hj]; simpa using ew) fin
    · cases e
  · cases hl
  · cases hl
  · split at e
    · rename_i kvs hk
      obtain ⟨a, o, rfl, hD, g, hr⟩ := dgot I hx hy hk
      rw [e] at hr
      rcases hr with ⟨z1, _⟩ | ⟨d', w', e1, rfl, dr⟩
      · cases z1
      · cases e1
        have g : DGet H a y (some w') := by
          rcases g with g | ⟨g, _⟩
          · exact g
          · cases g
        cases (show v = Value.ref a from rx)
        obtain rfl : w' = .int n := dr
        exact d_getItem hu I g ry fun w2 s' I' r2 => ⟨.int n, H, I', r2, q⟩
    · cases e
  · cases e
end
end PD
end
section
/-! PD36: x[i] op= e; a, b = x, y. -/
namespace PD
open PySem PySem.Spec PyProof.Rows L2
section
variable {G : Glob} {Wx : WX} {pr : List Nat} {X : Cx} {cx : Ctx} {F H : Hp} {A Z : Ft} {σ : L2.St} {ρ : Sts} {D : Ends} {st : PySem.Str → Option Nat}
theorem s_augS (z : Cz X) (c : Cxt G X cx) {x : PySem.Str} {j : Nat} {p p2 pos : Pos} {i e : Expr} {op : Operator} {m : M Vl} {mi : M Opd} (hj : slotOf cx x = some j) (he : PE X e (tM G Wx RV m)) (hi : PE X i (tM G Wx RO mi)) (sm : Stay m) (si : Stay mi)
    (ha : ∀ ov iv new, augStore i ov iv new = (do holding [new, ov, iv] (setItem ov iv new); release [new, ov, iv] []; pure .next)) :
    PS X (.AugAssign (.Subscript (.Name x p) i p2) op e pos) (tS G Wx pr (nxt (bnd (slotO j) fun _ => cAugS j op mi m))) := by
  refine PS_imp (ps_augS (pe_slot c hj) hi (get_P z) he (iop_numP op) (set_P (by have := z.un; omega)) ha) fun D σ H ⟨F, A, ρ, ok, h⟩ => ?_
  have h : AftS G Wx pr F H A σ ρ (bnd (bnd (slotO j) fun _ => cAugS j op mi m) (fun _ => ret .nx) ρ) D := h
  rw [bnd_bnd] at h
  obtain ⟨xv, ex, h⟩ := h.slot ok
  unfold cAugS at h
  rw [bnd_bnd] at h
  refine ⟨xv, ex, F, A, ρ, ok, AftS.bind h (fun _ z => z) si fun o ρ1 _ iv F1 H1 A1 B1 Z1 g1 ok1 r1 le1 y1 y2 y3 h1 => ?_⟩
  rw [bnd_bnd] at h1
  obtain ⟨dj, edj, h1⟩ := h1.peek
  rw [bnd_bnd] at h1
  obtain ⟨d, ed, h1⟩ := h1.peek
  obtain ⟨xv', ex', dr⟩ := ok1.at (show rdS ρ1 j = some d from ed)
  rw [ex] at ex'
  cases ex'
  rw [bnd_bnd] at h1
  obtain ⟨n, en, h1⟩ := h1.lif
  unfold itemN at en
  split at en
  case isFalse => cases en
  rename_i hl
  split at en
  case h_2 => cases en
  rename_i n' ei
  cases en
  rw [bnd_bnd] at h1
  have ap : ∀ a, B1 a ≠ 0 → A1 a = 0 := fun a z => by have := le1 a; omega
  refine ⟨d, dj, n, dr, ok1.opd r1 edj, ei, hl, F1, A1, ρ1, ok1, AftS.bind h1 y1 sm fun b ρ2 _ y F2 H2 A2 B2 Z2 g2 ok2 r2 le2 w1 w2 w3 h2 => ?_⟩
  have live : ∀ a, B1 a ≠ 0 → H1 a ≠ none := fun a z => r1.live a z
  have r1' := r1.mono (ρ' := ρ2) (g2.kp live ap)
  have apart := g2.apart live ap
  rw [bnd_bnd] at h2
  obtain ⟨v, ev, h3⟩ := h2.lif
  clear h2
  obtain ⟨kb, db⟩ := b
  obtain ⟨i1, i2, i3, e1, e2, rfl⟩ := augOp_int ev
  have e2 : db = .int i2 := e2
  subst e2
  have fy : y = .int i2 := (Rep.fz_imm kb (.int i2) y B2 rfl r2).1
  subst fy
  refine aug_rd ok2 ev fun z F' H' B' g ok' r le => ?_
  have h4 := h3.base (g.big (Z := Z2) fun a q => absurd rfl q)
  rw [bnd_bnd] at h4
  obtain ⟨dj', edj', h5⟩ := h4.peek
  have r1'' := r1'.mono (ρ' := ρ2) (g.kp (fun a z => r1'.live a z) fun _ _ => rfl)
  exact h5.mset (Y := Z2) ok' ex (ok'.opd r1'' edj') r le (fun a q => by have := w1 a q; show B' a + Z2 a ≠ 0; omega) (fun a q => by show B' a + Z2 a ≠ 0; omega)

/-- one name stored, beside what C holds -/
theorem AftS.sto {B C : Ft} {x : PySem.Str} {p : Pos} {i : Nat} {vl : Vl} {v : V} {m : M Flw} (h : AftS G Wx pr F H Z σ ρ (bnd (asgn st pr (.Name x p) vl) (fun _ => m) ρ) D) (hx : st x = some i) (ok : Ok F H σ ρ A) (r : Rep F H vl.1 vl.2 v B) (le : ∀ a, A a + B a ≤ 1) :
    ∃ ρ' A', Ok F H (σ.set i (some v)) ρ' A' ∧ (∀ a, A' a ≤ A a + B a) ∧ AftS G Wx pr F H Z (σ.set i (some v)) ρ' (m ρ') D := by
  have ea : (asgn st pr (.Name x p) vl : M Unit) = PD.store pr i vl := by
    show (match st x with
      | some i => PD.store pr i vl
      | none => PD.stuck) = _
    rw [hx]
  rw [ea] at h
  unfold bnd at h
  cases e : PD.store pr i vl ρ with
  | none => rw [e] at h; exact (h : False).elim
  | some q => cases q with
    | exc c d ρ1 => exact (store_exc e).elim
    | ok u ρ1 =>
      rw [e] at h
      have hh : AftG F H A B σ ρ (Tch st pr) (PD.store pr i vl ρ) (fun σ' H' => ∃ A', Ok F H' σ' ρ1 A' ∧ (∀ a, A' a ≤ A a + B a) ∧ KeepS pr ρ σ σ' ∧ Same ρ ρ1) := by
        rw [e]
        intro σ' A' la ok' hl unt kro sm
        exact ⟨A', ok', la, ⟨hl, fun i hi => unt i fun z => z.2 hi, kro⟩, sm⟩
      obtain ⟨A', ok', la, ks, sm⟩ := store_ok' ok r le hx hh
      exact ⟨ρ1, A', ok', la, h.re ks sm⟩
theorem swP_ok {env : Env} {ts vs : List Expr} {k p k2 p2} {r : Option (List PySem.Str)} (h : swP env.scope ts vs = some r) : swappedStores [.Tuple ts k p] (.Tuple vs k2 p2) env = pure r := by
  unfold swP at h
  split at h
  · cases h
  · rename_i hk
    have hk : env.scope.kind = .function := by
      cases e : env.scope.kind <;> rw [e] at hk <;> first | rfl | exact absurd rfl hk
    have hb : env.blockKind = .function := by unfold Env.blockKind; rw [hk]; rfl
    have hf : (env.blockKind != .function) = false := by rw [hb]; rfl
    have go : swappedStores [.Tuple ts k p] (.Tuple vs k2 p2) env = (if (!(ts.length == 2 || ts.length == 3) || vs.length != ts.length || env.blockKind != .function) = true then pure none else
      if (vs.any fun e => match e with
        | .Starred _ _ => true
        | _ => false) = true then pure none else
      (fun names => if (List.length names != ts.length || names.eraseDups.length != names.length) = true then pure none else if vs.all (foldedForSure 8) = true then pure none else if vs.all (constantsAlone 8) = true then unsupported "assign.tuple-of-constant-expressions:order-of-the-stores" else pure (some names)) (ts.filterMap fun t => match t with
        | .Name id pos => if (env.kindOf id == some .local && pos.line == (ts.head?.map (·.pos.line)).getD 0) = true then some id else none
        | _ => none)) := by
      rfl
    rw [go, hf, Bool.or_false]
    split at h
    · rename_i h1
      cases h
      rw [if_pos h1]
    · rename_i h1
      rw [if_neg h1]
      split at h
      · rename_i h2
        cases h
        exact if_pos h2
      · rename_i h2
        refine (if_neg h2).trans ?_
        dsimp only at h ⊢
        split at h
        · rename_i h3
          cases h
          exact if_pos h3
        · rename_i h3
          refine (if_neg h3).trans ?_
          split at h
          · rename_i h4
            cases h
            exact if_pos h4
          · rename_i h4
            refine (if_neg h4).trans ?_
            split at h
            · cases h
            · rename_i h5
              cases h
              exact if_neg h5
/-- a, b = x, y -/
theorem s_par2 (hc : X.calm = true) (hN : X.N.Nodup) (so : StOk X st) {x y : PySem.Str} {i j : Nat} {a b : Expr} {px py pt pt2 pos : Pos} {kt k2} {ma : M (List Vl)} (hx : st x = some i) (hy : st y = some j) (hij : i ≠ j) (lx : X.env.scope.names.lookup x = some .local) (ly : X.env.scope.names.lookup y = some .local)
    (ha : PA X [a, b] (tM G Wx RVs ma)) (sm : Stay ma) (hw : swP X.env.scope [.Name x px, .Name y py] [a, b] = some (some [x, y])) :
    PS X (.Assign [.Tuple [.Name x px, .Name y py] kt pt] (.Tuple [a, b] k2 pt2) pos) (tS G Wx pr (nxt (bnd ma fun vs => stores st pr [.Name x px, .Name y py] vs))) := by
  refine PS_imp (ps_par hc hN (so.at_ x i hx).1 (so.at_ y j hy).1 hij lx ly ha (swP_ok hw) rfl) fun D σ H ⟨F, A, ρ, ok, h⟩ => ?_
  have h : AftS G Wx pr F H A σ ρ (bnd (bnd ma fun vs => stores st pr [.Name x px, .Name y py] vs) (fun _ => ret .nx) ρ) D := h
  rw [bnd_bnd] at h
  refine ⟨F, A, ρ, ok, AftS.bind h (fun _ z => z) sm fun vs ρ1 _ xs F1 H1 A1 B1 Z1 g1 ok1 r1 le1 z1 z2 z3 h1 => ?_⟩
  match vs, h1, r1 with
  | [], h1, _ => exact (h1 : False).elim
  | [v], h1, _ =>
    have h1 : AftS G Wx pr F1 H1 Z1 σ ρ1 (bnd (bnd (asgn st pr (.Name x px) v) fun _ => stuck) (fun _ => ret .nx) ρ1) D := h1
    rw [bnd_bnd] at h1
    unfold bnd at h1
    cases e : asgn st pr (.Name x px) v ρ1 with
    | none => rw [e] at h1; exact (h1 : False).elim
    | some r => cases r with
      | ok u ρ2 => rw [e] at h1; exact (h1 : False).elim
      | exc c d ρ2 => exact (asgn_exc _ _ _ _ _ _ e).elim
  | v :: w :: z :: vs, h1, _ =>
    have h1 : AftS G Wx pr F1 H1 Z1 σ ρ1 (bnd (bnd (asgn st pr (.Name x px) v) fun _ => bnd (asgn st pr (.Name y py) w) fun _ => stuck) (fun _ => ret .nx) ρ1) D := h1
    rw [bnd_bnd] at h1
    unfold bnd at h1
    cases e : asgn st pr (.Name x px) v ρ1 with
    | none => rw [e] at h1; exact (h1 : False).elim
    | some r => cases r with
      | exc c d ρ2 => exact (asgn_exc _ _ _ _ _ _ e).elim
      | ok u ρ2 =>
        rw [e] at h1
        dsimp only at h1
        cases e2 : asgn st pr (.Name y py) w ρ2 with
        | none => rw [e2] at h1; exact (h1 : False).elim
        | some r => cases r with
          | exc c d ρ2 => exact (asgn_exc _ _ _ _ _ _ e2).elim
          | ok u ρ2 => rw [e2] at h1; exact (h1 : False).elim
  | [v, w], h1, r1 =>
    obtain ⟨vx, _, B, C, rfl, rv, ⟨wx, _, C2, D2, rfl, rw', ⟨rfl, zd⟩, s2⟩, s1⟩ := r1
    refine ⟨vx, wx, rfl, ?_⟩
    have h1 : AftS G Wx pr F1 H1 Z1 σ ρ1 (bnd (bnd (asgn st pr (.Name x px) v) fun _ => bnd (asgn st pr (.Name y py) w) fun _ => ret ()) (fun _ => ret .nx) ρ1) D := h1
    rw [bnd_bnd] at h1
    obtain ⟨ρ2, A2, ok2, la2, h2⟩ := h1.sto (C := fun _ => 0) hx ok1 rv fun a => by have := le1 a; rw [s1 a] at this; omega
    rw [bnd_bnd] at h2
    obtain ⟨ρ3, A3, ok3, la3, h3⟩ := h2.sto (C := fun _ => 0) hy ok2 rw' fun a => by have := le1 a; rw [s1 a, s2 a] at this; have := la2 a; omega
    exact h3 _ F1 H1 A3 ((Go.refl F1 H1 Z1).less fun a q => by
      have := la2 a; have := la3 a; have e1 := s1 a; have e2 := s2 a; have := z1 a; have := z2 a
      by_cases q1 : A1 a = 0
      · by_cases q2 : B1 a = 0
        · omega
        · exact z2 a q2
      · exact z1 a q1) ok3 (.refl ..)
end
end PD
end
section
/-! PD37: a, b, c = x, y, z; name = [..] on one line. -/
namespace PD
open PySem PySem.Spec PyProof.Rows L2
theorem stores_bad {st : PySem.Str → Option Nat} {pr : List Nat} : ∀ {ts : List Expr} {vs : List Vl} {ρ : Sts}, vs.length ≠ ts.length → stores st pr ts vs ρ = none
  | [], [], _, h => absurd rfl h
  | [], _ :: _, _, _ => rfl
  | _ :: _, [], _, _ => rfl
  | t :: ts, v :: vs, ρ, h => by
    show bnd (asgn st pr t v) (fun _ => stores st pr ts vs) ρ = none
    unfold bnd
    cases e : asgn st pr t v ρ with
    | none => rfl
    | some r => cases r with
      | exc c d ρ2 => exact (asgn_exc _ _ _ _ _ _ e).elim
      | ok u ρ2 => exact stores_bad fun z => h (by rw [List.length_cons, List.length_cons, z])
section
variable {G : Glob} {Wx : WX} {pr : List Nat} {X : Cx} {cx : Ctx} {F H : Hp} {A Z : Ft} {σ : L2.St} {ρ : Sts} {D : Ends} {st : PySem.Str → Option Nat}
theorem s_par3 (hc : X.calm = true) (hN : X.N.Nodup) (so : StOk X st) {x y z : PySem.Str} {i j l : Nat} {a b c : Expr} {px py pz pt pt2 pos : Pos} {kt k2} {ma : M (List Vl)} (hx : st x = some i) (hy : st y = some j) (hz : st z = some l) (hij : i ≠ j) (hil : i ≠ l) (hjl : j ≠ l)
    (lx : X.env.scope.names.lookup x = some .local) (ly : X.env.scope.names.lookup y = some .local) (lz : X.env.scope.names.lookup z = some .local)
    (ha : PA X [a, b, c] (tM G Wx RVs ma)) (sm : Stay ma) (hw : swP X.env.scope [.Name x px, .Name y py, .Name z pz] [a, b, c] = some (some [x, y, z])) :
    PS X (.Assign [.Tuple [.Name x px, .Name y py, .Name z pz] kt pt] (.Tuple [a, b, c] k2 pt2) pos) (tS G Wx pr (nxt (bnd ma fun vs => stores st pr [.Name x px, .Name y py, .Name z pz] vs))) := by
  refine PS_imp (ps_par3 hc hN (so.at_ x i hx).1 (so.at_ y j hy).1 (so.at_ z l hz).1 hij hil hjl lx ly lz ha (swP_ok hw) rfl) fun D σ H ⟨F, A, ρ, ok, h⟩ => ?_
  have h : AftS G Wx pr F H A σ ρ (bnd (bnd ma fun vs => stores st pr [.Name x px, .Name y py, .Name z pz] vs) (fun _ => ret .nx) ρ) D := h
  rw [bnd_bnd] at h
  refine ⟨F, A, ρ, ok, AftS.bind h (fun _ z => z) sm fun vs ρ1 _ xs F1 H1 A1 B1 Z1 g1 ok1 r1 le1 z1 z2 z3 h1 => ?_⟩
  by_cases hl : vs.length = 3
  case neg =>
    unfold bnd at h1
    rw [stores_bad hl] at h1
    exact (h1 : False).elim
  obtain ⟨v, w, t, rfl⟩ : ∃ v w t, vs = [v, w, t] := by
    cases vs with
    | nil => cases hl
    | cons v vs => cases vs with
      | nil => cases hl
      | cons w vs => cases vs with
        | nil => cases hl
        | cons t vs => cases vs with
          | nil => exact ⟨_, _, _, rfl⟩
          | cons _ _ => simp at hl
  · obtain ⟨vx, _, B, C, rfl, rv, ⟨wx, _, C2, D2, rfl, rw', ⟨tx, _, C3, D3, rfl, rt', ⟨rfl, zd⟩, s3⟩, s2⟩, s1⟩ := r1
    refine ⟨vx, wx, tx, rfl, ?_⟩
    have h1 : AftS G Wx pr F1 H1 Z1 σ ρ1 (bnd (bnd (asgn st pr (.Name x px) v) fun _ => bnd (asgn st pr (.Name y py) w) fun _ => bnd (asgn st pr (.Name z pz) t) fun _ => ret ()) (fun _ => ret .nx) ρ1) D := h1
    rw [bnd_bnd] at h1
    obtain ⟨ρ2, A2, ok2, la2, h2⟩ := h1.sto (C := fun _ => 0) hx ok1 rv fun a => by have := le1 a; rw [s1 a] at this; omega
    rw [bnd_bnd] at h2
    obtain ⟨ρ3, A3, ok3, la3, h3⟩ := h2.sto (C := fun _ => 0) hy ok2 rw' fun a => by have := le1 a; rw [s1 a, s2 a] at this; have := la2 a; omega
    rw [bnd_bnd] at h3
    obtain ⟨ρ4, A4, ok4, la4, h4⟩ := h3.sto (C := fun _ => 0) hz ok3 rt' fun a => by have := le1 a; rw [s1 a, s2 a, s3 a] at this; have := la2 a; have := la3 a; omega
    exact h4 _ F1 H1 A4 ((Go.refl F1 H1 Z1).less fun a q => by
      have := la2 a; have := la3 a; have := la4 a; have e1 := s1 a; have e2 := s2 a; have e3 := s3 a
      by_cases q1 : A1 a = 0
      · by_cases q2 : B1 a = 0
        · omega
        · exact z2 a q2
      · exact z1 a q1) ok4 (.refl ..)
end
end PD
end
section
/-! PD38: name = [..], name = {..} as one is made. -/
namespace PD
open PySem PySem.Spec PyProof.Rows L2
section
variable {G : Glob} {Wx : WX} {pr : List Nat} {X : Cx} {cx : Ctx} {F H : Hp} {A Z : Ft} {σ : L2.St} {ρ : Sts} {D : Ends} {st : PySem.Str → Option Nat}
theorem swB_ok {env : Env} {e : Expr} {scope : Scope} {pos py : Pos} {y : PySem.Str} {l : Nat} (hk : (env.scope.kind == .function) = true) (he : (∃ elt gs, e = .ListComp elt gs scope pos) ∨ ∃ k v gs, e = .DictComp k v gs scope pos) : swapsWith e (some (.Name y py)) l env = pure (swapB env.scope y py scope pos) := by
  have hk : env.scope.kind = .function := by
    cases e : env.scope.kind <;> rw [e] at hk <;> first | rfl | cases hk
  have hb : (env.blockKind == .function) = true := by
    unfold Env.blockKind
    rw [hk]
    rfl
  rcases he with ⟨elt, gs, rfl⟩ | ⟨k, v, gs, rfl⟩ <;>
  · show pure (env.blockKind == .function && env.kindOf y == some .local && py.line == pos.line && !(scope.names.any fun (n, k) => n == y && (k == .local || k == .cell))) = _
    rw [hb, Bool.true_and]
    rfl
/-- name = {.. for ..}, stored within -/
theorem ps_dcTo {i : Nat} {y : PySem.Str} {py : Pos} {kx vx tg iter : Expr} {ifs : List Expr} {scope : Scope} {own : List (PySem.Str × Nat)} {pos spos : Pos} {wi : TI} {g : TG} {tt : TT} {tk tv : TE} (hc : X.calm = true) (hN : X.N.Nodup) (hy : X.N[i]? = some y)
    (hl : X.env.scope.names.lookup y = some .local) (hsw : swapsWith (.DictComp kx vx [⟨tg, iter, ifs, 0⟩] scope pos) (some (.Name y py)) spos.line X.env = pure true) (hi : PI X tg iter wi) (ok : BlkOk X.N X.env.scope scope own)
    (hg : ∀ (s : Shared) (H : Hp) (C : Addr) (cc : List (PySem.Str × Addr)) (fp : List Addr), PG (X.blk s H scope (compEnvC scope cc C X.env) fp) tg g)
    (ht : ∀ (s : Shared) (H : Hp) (C : Addr) (cc : List (PySem.Str × Addr)) (fp : List Addr), PTs (X.blk s H scope (compEnvC scope cc C X.env) fp) ifs tt)
    (hk : ∀ (s : Shared) (H : Hp) (C : Addr) (cc : List (PySem.Str × Addr)) (fp : List Addr), PE (X.blk s H scope (compEnvC scope cc C X.env) fp) kx tk)
    (he : ∀ (s : Shared) (H : Hp) (C : Addr) (cc : List (PySem.Str × Addr)) (fp : List Addr), PE (X.blk s H scope (compEnvC scope cc C X.env) fp) vx tv) (hs : ∀ x, foldedSetIterable iter X.env x = pure x) :
    PS X (.Assign [.Name y py] (.DictComp kx vx [⟨tg, iter, ifs, 0⟩] scope pos) spos) (tAsg (tDc wi g tt tk tv (own.map (·.2))) (gName i)) := by
  refine ⟨fun pins s0 σ0 H0 D0 I0 h0 => ?_⟩
  rw [exec_Assign_Name_used (hs := hsw)]
  refine wpAny_bind (wpAny_standAt (wpAny_bind (?_ : wpAny _ _ _ _ _ _)))
  show wpAny _ X.A (do let _ ← comprehension (.DictComp kx vx [⟨tg, iter, ifs, 0⟩] scope pos) scope X.env (firstIterPos [⟨tg, iter, ifs, 0⟩] pos) newDict false (eval iter X.env) (some (assign (.Name y py) X.env))) _ _ s0
  have h1 : tDc wi g tt tk tv (own.map (·.2)) σ0 H0 (fun x H1 => gName i x σ0 H1 D0.nx) := h0
  refine wpAny_bind (thn (dc_core (Qf := fun _ s' => SP X pins D0 .next s') hc hN I0 hi ok hg ht hk he hs h1 fun L C s' m H' I' q hn f => ?_) fun _ s' hq => wpAny_pure (wpAny_pure hq))
  show wpAny _ _ (assign (.Name y py) X.env (.ref L)) _ _ _
  refine wpAny_assign_Name (store_ok2 (v := V.ref L) I' hN hy (.inl hl) rfl (fun s2 I2 ⟨a, sb, ha⟩ => ?_) (.inr hl))
  obtain ⟨f0, f1, f2, f3, f4, f5⟩ := f
  have nCa : C ≠ a := by
    rcases ha with z | z
    · exact z ▸ f1
    · exact fun e => f4 y a z e.symm
  exact ⟨m, hn.sameBut sb nCa, fun h3 sb3 => ⟨_, H', I2.turned (t' := s2.toks) (fun b o hb e => (sb3.2 b hb).trans e) f0 f1 f3 f4 f5, q⟩⟩
/-- name = [.. for ..] -/
theorem s_lcTo {i : Nat} {y : PySem.Str} {py spos : Pos} {st0 : PySem.Str → Option Nat} {tg it elt : Expr} {ifs : List Expr} {scope : Scope} {own : List (PySem.Str × Nat)} {pos : Pos} {w : M Walk} {c : M Bool} {em : M Vl} (hc : X.calm = true) (hN : X.N.Nodup) (hy : X.N[i]? = some y) (hl : X.env.scope.names.lookup y = some .local) (hx : st y = some i)
    (hsw : swapsWith (.ListComp elt [⟨tg, it, ifs, 0⟩] scope pos) (some (.Name y py)) spos.line X.env = pure true) (bk : BlkOk X.N X.env.scope scope own)
    (hg : ∀ (s : Shared) (H : Hp) (C : Addr) (cl : List (PySem.Str × Addr)) (fp : List Addr), PG (X.blk s H scope (compEnvC scope cl C X.env) fp) tg (gA st0 [] tg))
    (ht : ∀ (s : Shared) (H : Hp) (C : Addr) (cl : List (PySem.Str × Addr)) (fp : List Addr), PTs (X.blk s H scope (compEnvC scope cl C X.env) fp) ifs (tM G W0 RB c))
    (he : ∀ (s : Shared) (H : Hp) (C : Addr) (cl : List (PySem.Str × Addr)) (fp : List Addr), PE (X.blk s H scope (compEnvC scope cl C X.env) fp) elt (tM G W0 RV em))
    (hs : ∀ x, foldedSetIterable it X.env x = pure x)
    (rd : ∃ wi, PI X tg it wi ∧ ∀ σ H Q, tM G Wx RV (cLc w (own.map (·.2)) (fun x => asgn st0 [] tg (0, x)) c em) σ H Q → tLc wi (gA st0 [] tg) (tM G W0 RB c) (tM G W0 RV em) (own.map (·.2)) σ H (fun x H' => ∃ lk, UL X H' lk ∧ Q x (ul lk H')))
    (sm : Stay (cLc w (own.map (·.2)) (fun x => asgn st0 [] tg (0, x)) c em)) :
    PS X (.Assign [.Name y py] (.ListComp elt [⟨tg, it, ifs, 0⟩] scope pos) spos) (tS G Wx pr (nxt (bnd (cLc w (own.map (·.2)) (fun x => asgn st0 [] tg (0, x)) c em) fun v => asgn st pr (.Name y py) v))) := by
  obtain ⟨wi, pi, rd⟩ := rd
  refine PS_imp (ps_free (ps_setLc hc hN hy hl hsw pi bk hg ht he hs)) fun D σ H ⟨F, A, ρ, ok, h⟩ => ?_
  have h : AftS G Wx pr F H A σ ρ (bnd (bnd (cLc w (own.map (·.2)) (fun x => asgn st0 [] tg (0, x)) c em) fun v => asgn st pr (.Name y py) v) (fun _ => ret .nx) ρ) D := h
  rw [bnd_bnd] at h
  exact rd σ H (fun x H1 => D.nx (σ.set i (some x)) H1) ⟨F, A, ρ, ok, AftS.bind h (fun _ z => z) sm fun v ρ1 _ x F1 H1 A1 B1 Z1 g ok1 r1 le1 z1 z2 z3 h1 => gA_name hx (h1.store ok1 r1 le1 z1 z2 fun σ' h => s_nx h)⟩
/-- name = {.. for ..} -/
theorem s_dcTo {i : Nat} {y : PySem.Str} {py spos : Pos} {st0 : PySem.Str → Option Nat} {tg it kx vx : Expr} {ifs : List Expr} {scope : Scope} {own : List (PySem.Str × Nat)} {pos : Pos} {w : M Walk} {c : M Bool} {km em : M Vl} (hc : X.calm = true) (hN : X.N.Nodup) (hy : X.N[i]? = some y) (hl : X.env.scope.names.lookup y = some .local) (hx : st y = some i)
    (hsw : swapsWith (.DictComp kx vx [⟨tg, it, ifs, 0⟩] scope pos) (some (.Name y py)) spos.line X.env = pure true) (bk : BlkOk X.N X.env.scope scope own)
    (hg : ∀ (s : Shared) (H : Hp) (C : Addr) (cl : List (PySem.Str × Addr)) (fp : List Addr), PG (X.blk s H scope (compEnvC scope cl C X.env) fp) tg (gA st0 [] tg))
    (ht : ∀ (s : Shared) (H : Hp) (C : Addr) (cl : List (PySem.Str × Addr)) (fp : List Addr), PTs (X.blk s H scope (compEnvC scope cl C X.env) fp) ifs (tM G W0 RB c))
    (hk : ∀ (s : Shared) (H : Hp) (C : Addr) (cl : List (PySem.Str × Addr)) (fp : List Addr), PE (X.blk s H scope (compEnvC scope cl C X.env) fp) kx (tM G W0 RV km))
    (he : ∀ (s : Shared) (H : Hp) (C : Addr) (cl : List (PySem.Str × Addr)) (fp : List Addr), PE (X.blk s H scope (compEnvC scope cl C X.env) fp) vx (tM G W0 RV em))
    (hs : ∀ x, foldedSetIterable it X.env x = pure x)
    (rd : ∃ wi, PI X tg it wi ∧ ∀ σ H Q, tM G Wx RV (cDc w (own.map (·.2)) (fun x => asgn st0 [] tg (0, x)) c km em) σ H Q → tDc wi (gA st0 [] tg) (tM G W0 RB c) (tM G W0 RV km) (tM G W0 RV em) (own.map (·.2)) σ H (fun x H' => ∃ lk, UL X H' lk ∧ Q x (ul lk H')))
    (sm : Stay (cDc w (own.map (·.2)) (fun x => asgn st0 [] tg (0, x)) c km em)) :
    PS X (.Assign [.Name y py] (.DictComp kx vx [⟨tg, it, ifs, 0⟩] scope pos) spos) (tS G Wx pr (nxt (bnd (cDc w (own.map (·.2)) (fun x => asgn st0 [] tg (0, x)) c km em) fun v => asgn st pr (.Name y py) v))) := by
  obtain ⟨wi, pi, rd⟩ := rd
  refine PS_imp (ps_free (ps_dcTo hc hN hy hl hsw pi bk hg ht hk he hs)) fun D σ H ⟨F, A, ρ, ok, h⟩ => ?_
  have h : AftS G Wx pr F H A σ ρ (bnd (bnd (cDc w (own.map (·.2)) (fun x => asgn st0 [] tg (0, x)) c km em) fun v => asgn st pr (.Name y py) v) (fun _ => ret .nx) ρ) D := h
  rw [bnd_bnd] at h
  exact rd σ H (fun x H1 => D.nx (σ.set i (some x)) H1) ⟨F, A, ρ, ok, AftS.bind h (fun _ z => z) sm fun v ρ1 _ x F1 H1 A1 B1 Z1 g ok1 r1 le1 z1 z2 z3 h1 => gA_name hx (h1.store ok1 r1 le1 z1 z2 fun σ' h => s_nx h)⟩
end
end PD
end
section
/-! PD39: the evaluator is sound for statements. -/
namespace PD
open PySem PySem.Spec PyProof.Rows L2
structure WlS (G : Glob) (X : Cx) (cx : Ctx) (cl : Callee) (k : Nat) (W : WX) : Prop where
  w : Wl G X cx cl k W
  hp : PassesOwn (model X.prog X.w) X.A X.env X.xe
  so : StOk X (stSlot cx)
  kd : (cx.sc.kind == .function) = true
section
variable {G : Glob} {cl : Callee} {k : Nat} {X : Cx} {cx : Ctx} {W : WX}
theorem s_no {s : Stmt} : PS X s (tS G W cx.pr stuck) := PS_no fun D σ H h => tS_stuck h
theorem nxt_stuck {k : Vl → M Unit} : nxt (bnd stuck k) = stuck := rfl
theorem s_name (n : Nat) (w : WlS G X cx cl k W) (x : PySem.Str) (p pos : Pos) (e : Expr) (hi : (stSlot cx x).isSome = true) : PS X (.Assign [.Name x p] e pos) (tS G W cx.pr (nxt (bnd (ev G.pg cl n cx e) fun v => asgn (stSlot cx) cx.pr (.Name x p) v))) := by
  have plain : swapsWithSole [.Name x p] e pos.line X.env = pure false → PS X (.Assign [.Name x p] e pos) (tS G W cx.pr (nxt (bnd (ev G.pg cl n cx e) fun v => asgn (stSlot cx) cx.pr (.Name x p) v))) := fun hs =>
    s_asg w.w.z.calm w.w.c.nd w.so ((ev_ok n w.w).1 e) (Stay.ev n cx e) hs rfl rfl
  have kd : (X.env.scope.kind == .function) = true := by rw [w.w.c.sc]; exact w.kd
  cases e with
  | ListComp elt gs scope q =>
    cases hb : swapB X.env.scope x p scope q with
    | false => exact plain ((swB_ok (l := pos.line) kd (.inl ⟨_, _, rfl⟩)).trans (by rw [hb]))
    | true =>
      have hsw : swapsWith (.ListComp elt gs scope q) (some (.Name x p)) pos.line X.env = pure true := (swB_ok kd (.inl ⟨_, _, rfl⟩)).trans (by rw [hb])
      have hl : X.env.scope.names.lookup x = some .local := by
        unfold swapB at hb
        exact eq_of_beq (and_t (and_t hb).1).1
      cases n with
      | zero => rw [ev_zero]; exact s_no
      | succ m =>
        match gs, hsw with
        | [], _ => exact s_no
        | ⟨_, _, _, _⟩ :: _ :: _, _ => exact s_no
        | [⟨tg, it, ifs, a0⟩], hsw =>
          cases hx : stSlot cx x with
          | none => rw [hx] at hi; cases hi
          | some i =>
            by_cases hg : (L2.blkC cx.N cx.sc scope (ownSlots cx.N scope.names) && decide (a0 = 0) && noSet it) = true
            case neg =>
              have e : ev G.pg cl (m + 1) cx (.ListComp elt [⟨tg, it, ifs, a0⟩] scope q) = stuck := if_neg hg
              rw [e]
              exact s_no
            have e : ev G.pg cl (m + 1) cx (.ListComp elt [⟨tg, it, ifs, a0⟩] scope q) = cLc (walk G.pg cx (ev G.pg cl m cx) tg it) ((ownSlots cx.N scope.names).map (·.2)) (fun x => asgn (blkSlot scope cx.N) [] tg (0, x)) (cond (ev G.pg cl m (inner cx scope)) ifs) (ev G.pg cl m (inner cx scope) elt) := by rw [← asgnX_eq]; exact if_pos hg
            have sm := Stay.ev (P := G.pg) (cl := cl) (m + 1) cx (.ListComp elt [⟨tg, it, ifs, a0⟩] scope q)
            rw [e] at sm ⊢
            obtain ⟨h, h3⟩ := and_t hg
            obtain ⟨h1, h2⟩ := and_t h
            have h2 := of_decide_eq_true h2
            subst h2
            have bk := blkOk_by h1
            rw [← w.w.c.sc, ← w.w.c.N] at bk
            have bk' : BlkOk X.N X.env.scope scope (ownSlots cx.N scope.names) := by rw [w.w.c.N] at bk; rw [w.w.c.N]; exact bk
            have hgg := fun (s : Shared) (H : Hp) (C : Addr) (cc : List (PySem.Str × Addr)) (fp : List Addr) => g_tgt (X := X.blk s H scope (compEnvC scope cc C X.env) fp) (pr := []) w.w.z.calm w.w.c.nd (blkSlot_st w.w s H C cc fp) tg
            have htt := fun (s : Shared) (H : Hp) (C : Addr) (cc : List (PySem.Str × Addr)) (fp : List Addr) => pts_cond (ev_ok m (w.w.blk s H scope C cc fp)).2 ifs
            have hee := fun (s : Shared) (H : Hp) (C : Addr) (cc : List (PySem.Str × Addr)) (fp : List Addr) => (ev_ok m (w.w.blk s H scope C cc fp)).1 elt
            refine s_lcTo w.w.z.calm w.w.c.nd (w.so.at_ x i hx).1 hl hx hsw bk' hgg htt hee (noSet_fold h3) (e_lcR (pos := q) w.w.z.calm w.w.c.nd (e_walk w.w (ev_ok m w.w).1 _ _) bk' hgg htt hee (noSet_fold h3) (fun x i hx => ?_) (fun x => ?_) (fun x => .asgn _ _ _ _) (.cond (Stay.ev m _) _)) sm
            · obtain ⟨q1, q2⟩ := blkSlot_at hx
              exact own_in q1 q2
            · exact (Stay.asgn _ _ _ _).bnd fun _ => (Stay.cond (Stay.ev m _) _).bnd fun b => .ite ((Stay.ev m _ _).bnd fun _ => .ret _) (.ret _)
  | DictComp kx vx gs scope q =>
    cases hb : swapB X.env.scope x p scope q with
    | false => exact plain ((swB_ok (l := pos.line) kd (.inr ⟨_, _, _, rfl⟩)).trans (by rw [hb]))
    | true =>
      have hsw : swapsWith (.DictComp kx vx gs scope q) (some (.Name x p)) pos.line X.env = pure true := (swB_ok kd (.inr ⟨_, _, _, rfl⟩)).trans (by rw [hb])
      have hl : X.env.scope.names.lookup x = some .local := by
        unfold swapB at hb
        exact eq_of_beq (and_t (and_t hb).1).1
      cases n with
      | zero => rw [ev_zero]; exact s_no
      | succ m =>
        match gs, hsw with
        | [], _ => exact s_no
        | ⟨_, _, _, _⟩ :: _ :: _, _ => exact s_no
        | [⟨tg, it, ifs, a0⟩], hsw =>
          cases hx : stSlot cx x with
          | none => rw [hx] at hi; cases hi
          | some i =>
            by_cases hg : (L2.blkC cx.N cx.sc scope (ownSlots cx.N scope.names) && decide (a0 = 0) && noSet it) = true
            case neg =>
              have e : ev G.pg cl (m + 1) cx (.DictComp kx vx [⟨tg, it, ifs, a0⟩] scope q) = stuck := if_neg hg
              rw [e]
              exact s_no
            have e : ev G.pg cl (m + 1) cx (.DictComp kx vx [⟨tg, it, ifs, a0⟩] scope q) = cDc (walk G.pg cx (ev G.pg cl m cx) tg it) ((ownSlots cx.N scope.names).map (·.2)) (fun x => asgn (blkSlot scope cx.N) [] tg (0, x)) (cond (ev G.pg cl m (inner cx scope)) ifs) (ev G.pg cl m (inner cx scope) kx) (ev G.pg cl m (inner cx scope) vx) := by rw [← asgnX_eq]; exact if_pos hg
            have sm := Stay.ev (P := G.pg) (cl := cl) (m + 1) cx (.DictComp kx vx [⟨tg, it, ifs, a0⟩] scope q)
            rw [e] at sm ⊢
            obtain ⟨h, h3⟩ := and_t hg
            obtain ⟨h1, h2⟩ := and_t h
            have h2 := of_decide_eq_true h2
            subst h2
            have bk := blkOk_by h1
            rw [← w.w.c.sc, ← w.w.c.N] at bk
            have bk' : BlkOk X.N X.env.scope scope (ownSlots cx.N scope.names) := by rw [w.w.c.N] at bk; rw [w.w.c.N]; exact bk
            have hgg := fun (s : Shared) (H : Hp) (C : Addr) (cc : List (PySem.Str × Addr)) (fp : List Addr) => g_tgt (X := X.blk s H scope (compEnvC scope cc C X.env) fp) (pr := []) w.w.z.calm w.w.c.nd (blkSlot_st w.w s H C cc fp) tg
            have htt := fun (s : Shared) (H : Hp) (C : Addr) (cc : List (PySem.Str × Addr)) (fp : List Addr) => pts_cond (ev_ok m (w.w.blk s H scope C cc fp)).2 ifs
            have hkk := fun (s : Shared) (H : Hp) (C : Addr) (cc : List (PySem.Str × Addr)) (fp : List Addr) => (ev_ok m (w.w.blk s H scope C cc fp)).1 kx
            have hee := fun (s : Shared) (H : Hp) (C : Addr) (cc : List (PySem.Str × Addr)) (fp : List Addr) => (ev_ok m (w.w.blk s H scope C cc fp)).1 vx
            refine s_dcTo w.w.z.calm w.w.c.nd (w.so.at_ x i hx).1 hl hx hsw bk' hgg htt hkk hee (noSet_fold h3) (e_dcR (pos := q) w.w.z.calm w.w.c.nd (e_walk w.w (ev_ok m w.w).1 _ _) bk' hgg htt hkk hee (noSet_fold h3) (fun x i hx => ?_) (fun x => ?_) (fun x => .asgn _ _ _ _) (.cond (Stay.ev m _) _)) sm
            · obtain ⟨q1, q2⟩ := blkSlot_at hx
              exact own_in q1 q2
            · exact (Stay.asgn _ _ _ _).bnd fun _ => (Stay.cond (Stay.ev m _) _).bnd fun b => .ite ((Stay.ev m _ _).bnd fun _ => (Stay.ev m _ _).bnd fun _ => .ret _) (.ret _)
  | SetComp elt gs scope q => 
    have e : ev G.pg cl n cx (.SetComp elt gs scope q) = stuck := by cases n <;> rfl
    rw [e]
    exact s_no
  | _ => exact plain rfl
theorem tup_hs {e : Expr} {ts : List Expr} {k p} {l : Nat} {env : Env} : swapsWithSole [.Tuple ts k p] e l env = pure false := by cases e <;> rfl
theorem tup_hw {e : Expr} {ts : List Expr} {k p} {env : Env} (h : ∀ es k2 p2, e ≠ .Tuple es k2 p2) : swappedStores [.Tuple ts k p] e env = pure none := by
  cases e <;> first | rfl | exact absurd rfl (h _ _ _)
theorem sub_hs {e v i : Expr} {p} {l : Nat} {env : Env} : swapsWithSole [.Subscript v i p] e l env = pure false := by cases e <;> rfl
theorem sub_ha {o i : Expr} {p2 : Pos} {env : Env} (h : isSl i = false) (v : Value) : assign (.Subscript o i p2) env v = (do
      let ov ← holding [v] (eval o env)
      let iv ← holding [v, ov] (eval i env)
      standAt p2
      holding [v, ov, iv] (setItem ov iv v)
      release [v, ov, iv] []) := by
  cases i <;> first | rfl | cases h
theorem aug_ha {i : Expr} (h : isSl i = false) (ov iv new : Value) : augStore i ov iv new = (do holding [new, ov, iv] (setItem ov iv new); release [new, ov, iv] []; pure .next) := by
  cases i <;> first | rfl | cases h
theorem s_tup (n : Nat) (w : WlS G X cx cl k W) (ts es : List Expr) (kt kt2) (p p2 pos : Pos) : PS X (.Assign [.Tuple ts kt p] (.Tuple es kt2 p2) pos) (tS G W cx.pr (match parX cx ts es with
      | some true => nxt (bnd (evs (ev G.pg cl n cx) es) fun vs => stores (stSlot cx) cx.pr ts vs)
      | some false => nxt (bnd (ev G.pg cl n cx (.Tuple es kt2 p2)) fun v => asgn (stSlot cx) cx.pr (.Tuple ts kt p) v)
      | none => stuck)) := by
  have hE := (ev_ok n w.w).1
  have hsw : ∀ {ts vs : List Expr} {r}, swP cx.sc ts vs = some r → swP X.env.scope ts vs = some r := fun h => by rw [w.w.c.sc]; exact h
  have loc : ∀ {x : PySem.Str}, (cx.sc.names.lookup x == some .local) = true → X.env.scope.names.lookup x = some .local := fun h => by rw [w.w.c.sc]; exact eq_of_beq h
  unfold parX
  split
  · rename_i h
    split at h
    · rename_i h1; cases h
    · split at h
      · split at h
        · rename_i hx hy
          split at h
          · rename_i hc
            obtain ⟨hc, c5⟩ := and_t hc
            obtain ⟨hc, c4⟩ := and_t hc
            obtain ⟨hc, c3⟩ := and_t hc
            obtain ⟨c1, c2⟩ := and_t hc
            exact s_par2 w.w.z.calm w.w.c.nd w.so hx hy (of_decide_eq_true c2) (loc c4) (loc c5) (e_row hE _ c3) (Stay.evs (Stay.ev n cx) _) (hsw (of_decide_eq_true c1))
          · cases h
        · cases h
      · split at h
        · rename_i hx hy hz
          split at h
          · rename_i hc
            obtain ⟨hc, c8⟩ := and_t hc
            obtain ⟨hc, c7⟩ := and_t hc
            obtain ⟨hc, c6⟩ := and_t hc
            obtain ⟨hc, c5⟩ := and_t hc
            obtain ⟨hc, c4⟩ := and_t hc
            obtain ⟨hc, c3⟩ := and_t hc
            obtain ⟨c1, c2⟩ := and_t hc
            exact s_par3 w.w.z.calm w.w.c.nd w.so hx hy hz (of_decide_eq_true c2) (of_decide_eq_true c3) (of_decide_eq_true c4) (loc c6) (loc c7) (loc c8) (e_row hE _ c5) (Stay.evs (Stay.ev n cx) _) (hsw (of_decide_eq_true c1))
          · cases h
        · cases h
      · cases h
  · rename_i h
    split at h
    · rename_i h1
      exact s_asg w.w.z.calm w.w.c.nd w.so (hE _) (Stay.ev n cx _) tup_hs (swP_ok (hsw h1)) rfl
    · split at h
      · split at h
        · split at h <;> cases h
        · cases h
      · split at h
        · split at h <;> cases h
        · cases h
      · cases h
  · exact s_no
theorem evS_step (n : Nat) (w : WlS G X cx cl k W) (ih : ∀ s, PS X s (tS G W cx.pr (evS G.pg cl n cx s))) (s : Stmt) : PS X s (tS G W cx.pr (evS G.pg cl (n + 1) cx s)) := by
  obtain ⟨hE, hT⟩ := ev_ok n w.w
  have hO : ∀ e, PE X e (tM G W RO (opnd cx (ev G.pg cl n cx) e)) := fun e => e_opnd w.w.c (hE e)
  have sE := Stay.ev (P := G.pg) (cl := cl) n cx
  have sB : ∀ l, Stay (blk (evS G.pg cl n cx) l) := Stay.blk (Stay.evS n cx)
  have hB : ∀ l, PSs X l (tS G W cx.pr (blk (evS G.pg cl n cx) l)) := s_blk ih (Stay.evS n cx)
  unfold evS
  rw [asgnX_eq]
  split
  · exact PS_imp ps_pass fun D σ H h => s_nx h
  · exact PS_imp ps_break fun D σ H h => s_bk h
  · exact PS_imp ps_continue fun D σ H h => s_ct h
  · exact s_retN
  · exact s_ret (hE _) (sE _)
  · exact s_expr e_const (Stay.lif _) rfl
  · exact s_expr (hE _) (sE _) rfl
  · split
    · exact s_name n w _ _ _ _ (by assumption)
    · exact s_no
  · exact s_tup n w _ _ _ _ _ _ _
  · rename_i h
    exact s_asg w.w.z.calm w.w.c.nd w.so (hE _) (sE _) tup_hs (tup_hw fun es k2 p2 z => h _ _ _ z) rfl
  · split
    · split
      · exact s_no
      · rename_i hs
        exact s_sub w.w.z w.w.c (by assumption) (hE _) (hO _) (sE _) (Stay.opnd sE _) sub_hs rfl (sub_ha (Bool.eq_false_iff.mpr hs))
    · exact s_no
  · split
    · exact s_aug w.w.c.nd w.so (by assumption) (hE _) (sE _)
    · exact s_no
  · split
    · split
      · exact s_no
      · rename_i hs
        exact s_augS w.w.z w.w.c (by assumption) (hE _) (hO _) (sE _) (Stay.opnd sE _) (aug_ha (Bool.eq_false_iff.mpr hs))
    · exact s_no
  · exact s_if (hT _) (hB _) (hB _) (Stay.tst (sE _))
  · exact s_while w.hp (hT _) (hB _) (Stay.tst (sE _)) (sB _) _
  · split
    · exact s_for w.hp w.w.z.calm w.w.c.nd w.so (e_walk w.w hE _ _) (hB _) (noSet_fold (by assumption)) (WStay.walk sE _ _) (sB _)
    · exact s_no
  · exact s_no
theorem evS_ok (w : WlS G X cx cl k W) : ∀ (n : Nat) (s : Stmt), PS X s (tS G W cx.pr (evS G.pg cl n cx s))
  | 0, s => by unfold evS; exact s_no
  | n + 1, s => evS_step n w (evS_ok w n) s
end
end PD
end
section
/-! PDB: how arguments are bound. -/
namespace PD
open PySem PySem.Spec PyProof.Rows L2
theorem fm_congr {α β : Type} {f g : α → Option β} : ∀ {l : List α}, (∀ x ∈ l, f x = g x) → l.filterMap f = l.filterMap g
  | [], _ => rfl
  | x :: l, h => by
    rw [List.filterMap_cons, List.filterMap_cons, h x (List.mem_cons_self ..), fm_congr fun y hy => h y (List.mem_cons_of_mem _ hy)]
section
variable {κ ν : Type} [BEq κ] [LawfulBEq κ]
theorem bind_pos : ∀ {ps : List κ} {us : List ν} {kw : List (κ × ν)}, ps.Nodup → us.length ≤ ps.length →
    ps.filterMap (fun n => ((ps.zip us ++ kw).lookup n).map fun v => (n, v)) = ps.zip us ++ (ps.drop us.length).filterMap fun n => (kw.lookup n).map fun v => (n, v)
  | ps, [], kw, _, _ => by simp
  | [], u :: us, kw, _, h => by simp at h
  | p :: ps, u :: us, kw, nd, h => by
    have nd' := List.nodup_cons.mp nd
    rw [List.zip_cons_cons, List.cons_append, List.filterMap_cons, List.lookup_cons]
    simp only [beq_self_eq_true, Option.map_some, List.length_cons, List.drop_succ_cons, List.cons_append]
    rw [← bind_pos (kw := kw) nd'.2 (by simpa using h)]
    congr 1
    refine fm_congr fun n hn => ?_
    rw [List.lookup_cons]
    have : (n == p) = false := by
      cases e : (n == p) with
      | false => rfl
      | true => exact absurd (eq_of_beq e ▸ hn) nd'.1
    rw [this]
end
theorem pick_look {ν : Type} (p : PySem.Str) : ∀ {ks : List PySem.Str} {ws : List ν}, ks.length = ws.length → (ks.zip ws).lookup p = pick ks ws p
  | [], [], _ => rfl
  | [], _ :: _, h => by simp at h
  | _ :: _, [], h => by simp at h
  | k :: ks, w :: ws, h => by
    have ih := pick_look p (ks := ks) (ws := ws) (by simpa using h)
    rw [List.zip_cons_cons, List.lookup_cons, ih]
    unfold pick
    rw [List.idxOf?_cons]
    cases e : (p == k) with
    | true =>
      have : (k == p) = true := by rw [eq_of_beq e]; exact beq_self_eq_true _
      rw [this]
      rfl
    | false =>
      have : (k == p) = false := by
        cases e2 : (k == p) with
        | false => rfl
        | true => rw [eq_of_beq e2] at e; rw [beq_self_eq_true] at e; cases e
      rw [this]
      cases ks.idxOf? p with
      | none => rfl
      | some i => simp
theorem picks_zip {ν : Type} {ks : List PySem.Str} {ws : List ν} (h : ks.length = ws.length) : ∀ {qs : List PySem.Str} {vs : List ν}, picks ks ws qs = some vs → (qs.filterMap (fun n => ((ks.zip ws).lookup n).map fun v => (n, v)) = qs.zip vs) ∧ ∀ n ∈ qs, ((ks.zip ws).lookup n).isSome = true
  | [], vs, e => by cases e; exact ⟨rfl, fun n hn => by cases hn⟩
  | q :: qs, vs, e => by
    unfold picks at e
    split at e
    · rename_i v l e1 e2
      cases e
      obtain ⟨i1, i2⟩ := picks_zip h e2
      rw [← pick_look q h] at e1
      refine ⟨by rw [List.filterMap_cons, e1, i1]; rfl, fun n hn => ?_⟩
      rcases List.mem_cons.mp hn with rfl | hn
      · rw [e1]; rfl
      · exact i2 n hn
    · cases e
theorem zip_cut {ν : Type} : ∀ {ps : List PySem.Str} {us vs : List ν}, us.length ≤ ps.length → ps.zip us ++ (ps.drop us.length).zip vs = ps.zip (us ++ vs)
  | ps, [], vs, _ => by simp
  | [], u :: us, vs, h => by simp at h
  | p :: ps, u :: us, vs, h => by
    simp only [List.zip_cons_cons, List.cons_append, List.length_cons, List.drop_succ_cons]
    rw [zip_cut (by simpa using h)]
theorem zip_take {ν : Type} {a : PySem.Str} {b : ν} : ∀ {ps : List PySem.Str} {us : List ν}, (a, b) ∈ ps.zip us → a ∈ ps.take us.length
  | [], us, h => by simp at h
  | p :: ps, [], h => by simp at h
  | p :: ps, u :: us, h => by
    rw [List.zip_cons_cons] at h
    rw [List.length_cons, List.take_succ_cons]
    rcases List.mem_cons.mp h with h | h
    · cases h; exact List.mem_cons_self ..
    · exact List.mem_cons_of_mem _ (zip_take h)
theorem kw_loop {names : List PySem.Str} {f : PySem.Str × Value → List (PySem.Str × Value) × List (PySem.Str × Value) → Sem (ForInStep (List (PySem.Str × Value) × List (PySem.Str × Value)))}
    (hf : ∀ x s, names.contains x.1 = true → (s.1.lookup x.1).isSome = false → f x s = pure (.yield (s.1 ++ [(x.1, x.2)], s.2))) : ∀ (kw : List (PySem.Str × Value)) (s : List (PySem.Str × Value) × List (PySem.Str × Value)),
      (∀ x ∈ kw, names.contains x.1 = true) → (∀ x ∈ kw, (s.1.lookup x.1).isSome = false) → (kw.map (·.1)).Nodup → forIn kw s f = (pure (s.1 ++ kw, s.2) : Sem _)
  | [], s, _, _, _ => by simp
  | x :: kw, s, h1, h2, h3 => by
    rw [List.forIn_cons, hf x s (h1 x (List.mem_cons_self ..)) (h2 x (List.mem_cons_self ..))]
    have h3' := List.nodup_cons.mp (by simpa using h3 : (x.1 :: kw.map (·.1)).Nodup)
    have ih := kw_loop hf kw (s.1 ++ [(x.1, x.2)], s.2) (fun y hy => h1 y (List.mem_cons_of_mem _ hy)) (fun y hy => ?_) h3'.2
    · have : (pure (ForInStep.yield (s.1 ++ [(x.1, x.2)], s.2)) >>= fun r => match r with
        | .done b => pure b
        | .yield b => forIn kw b f : Sem _) = forIn kw (s.1 ++ [(x.1, x.2)], s.2) f := rfl
      refine this.trans (ih.trans ?_)
      simp
    · have hy2 := h2 y (List.mem_cons_of_mem _ hy)
      rw [List.lookup_append]
      have e1 : s.1.lookup y.1 = none := by cases q : s.1.lookup y.1 with
        | none => rfl
        | some v => rw [q] at hy2; cases hy2
      rw [e1, Option.none_or, List.lookup_cons]
      have : (y.1 == x.1) = false := by
        cases e : (y.1 == x.1) with
        | false => rfl
        | true => exact absurd (List.mem_map.mpr ⟨y, hy, eq_of_beq e⟩) h3'.1
      rw [this]
      rfl
theorem bind_all {name qual : PySem.Str} {as : List PySem.Arg} {body : List Stmt} {scope : Scope} {kV doc pm cdv ct : Value} {an : Option Addr} : FBind (PySem.W.fnOf name qual ⟨[], as, none, [], [], none, []⟩ body scope .none kV doc pm an cdv ct) (as.map (·.arg)) := by
  intro us ks ws vs hl hp hk
  generalize hps : as.map (·.arg) = ps at *
  unfold kwOk at hk
  obtain ⟨hk, h5⟩ := and_t hk
  obtain ⟨hk, h4⟩ := and_t hk
  obtain ⟨hk, h3⟩ := and_t hk
  obtain ⟨h1, h2⟩ := and_t hk
  have h1 : us.length ≤ ps.length := of_decide_eq_true h1
  have h2 : ps.Nodup := of_decide_eq_true h2
  have h3 : ks.Nodup := of_decide_eq_true h3
  obtain ⟨z1, z2⟩ := picks_zip hl hp
  have hall : ∀ n ∈ ps, ((ps.zip us ++ ks.zip ws).lookup n).isSome = true := fun n hn => by
    rw [List.lookup_append]
    rw [← List.take_append_drop us.length ps] at hn
    rcases List.mem_append.mp hn with hn | hn
    · have : ∃ v, (ps.zip us).lookup n = some v := by
        cases e : (ps.zip us).lookup n with
        | some v => exact ⟨v, rfl⟩
        | none =>
          have q := List.lookup_eq_none_iff.mp e
          obtain ⟨i, hi, e2⟩ := List.getElem_of_mem hn
          rw [List.length_take] at hi
          have hi1 : i < ps.length := by omega
          have hi2 : i < us.length := by omega
          rw [List.getElem_take] at e2
          have := q (ps[i], us[i]) (List.mem_iff_getElem.mpr ⟨i, by rw [List.length_zip]; omega, by rw [List.getElem_zip]⟩)
          rw [e2] at this
          simp at this
      obtain ⟨v, e⟩ := this
      rw [e]
      rfl
    · have := z2 n hn
      cases e : (ps.zip us).lookup n with
      | some v => rfl
      | none => rw [Option.none_or]; exact this
  have hbind := bind_pos (kw := ks.zip ws) h2 h1
  rw [z1] at hbind
  have hcat : ps.zip us ++ (ps.drop us.length).zip vs = ps.zip (us ++ vs) := zip_cut h1
  unfold bindArgs
  dsimp only [PySem.W.fnOf, List.map_nil, List.nil_append]
  rw [hps]
  have hnil : (List.map (fun (x : PySem.Arg) => x.arg) [] ++ ps).zip us = ps.zip us := rfl
  rw [hnil]
  have g1 : ∀ x ∈ ks.zip ws, ps.contains x.1 = true := fun x hx => by
    have hk := (List.of_mem_zip (a := x.1) (b := x.2) hx).1
    have := List.contains_iff_mem.mp (List.all_eq_true.mp h4 x.1 hk)
    exact List.contains_iff_mem.mpr (List.mem_of_mem_drop this)
  have g2 : ∀ x ∈ ks.zip ws, ((ps.zip us).lookup x.1).isSome = false := fun x hx => by
    have hk := (List.of_mem_zip (a := x.1) (b := x.2) hx).1
    have := List.contains_iff_mem.mp (List.all_eq_true.mp h4 x.1 hk)
    cases e : (ps.zip us).lookup x.1 with
    | none => rfl
    | some v =>
      exfalso
      have hm := PySem.mem_of_lookup e
      have hm := zip_take hm
      have h2' := h2
      rw [← List.take_append_drop us.length ps] at h2'
      exact (List.nodup_append.mp h2').2.2 _ hm _ this rfl
  have g3 : ((ks.zip ws).map (·.1)).Nodup := by
    have e : (ks.zip ws).map (·.1) = ks := List.map_fst_zip (by omega)
    rw [e]
    exact h3
  have hmiss : (ps.filter fun n => ((ps.zip us ++ ks.zip ws).lookup n).isNone) = [] := List.filter_eq_nil_iff.mpr fun n hn => by
    have := hall n hn
    cases e : (ps.zip us ++ ks.zip ws).lookup n with
    | none => rw [e] at this; cases this
    | some v => simp
  refine (congrArg (fun (z : Sem (List (PySem.Str × Value) × List (PySem.Str × Value))) => z >>= _) (kw_loop (names := ps) (fun x s c l => ?_) (ks.zip ws) (ps.zip us, []) g1 g2 g3)).trans ?_
  · simp only [c, l, Bool.true_or]
    rfl
  · show (pure _ >>= _) = _
    have hb : (ps ++ []).filterMap (fun n => (List.lookup n (ps.zip us ++ ks.zip ws)).map fun v => (n, v)) = ps.zip (us ++ vs) := by
      rw [List.append_nil, hbind, hcat]
    have hgt : (decide (us.length > ps.length) && true) = false := by
      rw [Bool.and_true]
      exact decide_eq_false (by omega)
    show (ite ((decide (us.length > ps.length) && true) = true) _ (ite ((!(List.filter (fun n => (List.lookup n (ps.zip us ++ ks.zip ws)).isNone) (List.take (ps.length - (List.drop (0 - ps.length) ([] : List Value)).length) ps)).isEmpty) = true) _ _)) = _
    rw [hgt, if_neg Bool.false_ne_true]
    have hd : (List.drop (0 - ps.length) ([] : List Value)) = [] := List.drop_nil
    rw [hd]
    have ht : List.take (ps.length - ([] : List Value).length) ps = ps := List.take_length
    rw [ht, hmiss, if_neg (by simp)]
    have e1 : (List.drop ((Option.getD (none : Option (Array Value)) #[]).toList.length - (List.map (fun (x : PySem.Arg) => x.arg) [] ++ ps).length) (Option.getD (none : Option (Array Value)) #[]).toList) = [] := List.drop_nil
    rw [e1, List.zip_nil_right, List.forIn_nil]
    show (pure ((ps ++ []).filterMap (fun n => (List.lookup n (ps.zip us ++ ks.zip ws)).map fun v => (n, v))) : Sem (List (PySem.Str × Value))) = _
    rw [hb]
end PD
end
section
/-! PD40: the defs of a text keep what the evaluator promises. -/
namespace PD
open PySem PySem.Spec PyProof.Rows L2
structure DefG (G : Glob) (f : PySem.Str) (fn : Fn) : Prop where
  ex : ∃ (a : Addr) (fd : FuncData) (qual : PySem.Str) (as : List PySem.Arg), G.mg f = some (.ref a) ∧ FunD G.K f qual ⟨[], as, none, [], [], none, []⟩ fn.body fn.sc [] [] a fd ∧ as.map (·.arg) = fn.ps
  S : FnScope fn.N fn.ps fn.sc
  nm : (f == ("__debug__" : PySem.Str)) = false
  nd : fn.ps.Nodup
  io : fn.io.length = fn.ps.length
structure GlobOk (G : Glob) : Prop where
  sys : ∃ o, G.base.get? sysModules = some o
  free : ∀ x, G.pg.free x = true → G.mg x = none
  con : ∀ x d, G.pg.con x = some d → ∃ v u, G.mg x = some u ∧ RelV v u ∧ ∀ F, Fz F d v
  defs : ∀ f fn, G.pg.fn f = some fn → DefG G f fn
theorem dead_rep {F H : Hp} : ∀ n : Nat, RepS F H (List.replicate n .dead) (List.replicate n none) (fun _ => 0)
  | 0 => ⟨rfl, fun _ => rfl⟩
  | n + 1 => ⟨none, _, fun _ => 0, fun _ => 0, rfl, fun _ => rfl, dead_rep n, fun _ => rfl⟩
theorem RepS.append {F H : Hp} {ρ' : Sts} {σ' : L2.St} {B : Ft} (h' : RepS F H ρ' σ' B) : ∀ {ρ : Sts} {σ : L2.St} {A : Ft}, RepS F H ρ σ A → RepS F H (ρ ++ ρ') (σ ++ σ') (fun a => A a + B a)
  | [], _, A, ⟨e, z⟩ => by
    subst e
    have : (fun a => A a + B a) = B := funext fun a => by rw [z a]; omega
    rw [this]
    exact h'
  | s :: ρ, _, A, ⟨o, r, C, D, e, h1, h2, h3⟩ => by
    subst e
    exact ⟨o, r ++ σ', C, _, rfl, h1, RepS.append h' h2, fun a => by show A a + B a = C a + (D a + B a); rw [h3 a]; omega⟩
theorem start_rep {F H : Hp} {fn : Fn} {ss : List Slot} {vs : List V} {A : Ft} (h : RepS F H ss (vs.map some) A) : RepS F H (start0 fn ss) (L2.start fn.N vs) A := by
  have hl := RepS.len h
  rw [List.length_map] at hl
  have := RepS.append (dead_rep (F := F) (H := H) (fn.N.length - ss.length)) h
  have e : (fun a => A a + (fun _ => 0 : Ft) a) = A := funext fun a => Nat.add_zero _
  rw [e] at this
  unfold start0 L2.start
  rw [← hl]
  exact this
/-- what is handed back stands as it stood -/
theorem back_rep {F H : Hp} : ∀ {io : List Bool} {ρ : Sts} {σ : L2.St} {vs : List V} {A : Ft} {k : Nat}, RepS F H ρ σ A → (∀ i, i ∈ ioIdx k io → ∀ j, i = k + j → σ[j]? = (vs.map some)[j]?) → io.length = vs.length → vs.length ≤ σ.length →
    ∃ B, RepS F H (backOf io ρ) (vs.map some) B ∧ ∀ a, B a ≤ A a
  | [], ρ, σ, [], A, k, _, _, _, _ => ⟨fun _ => 0, by unfold backOf; exact ⟨rfl, fun _ => rfl⟩, fun _ => Nat.zero_le _⟩
  | [], ρ, σ, v :: vs, A, k, _, _, h, _ => by cases h
  | b :: io, ρ, σ, [], A, k, _, _, h, _ => by cases h
  | b :: io, [], σ, v :: vs, A, k, ⟨e, _⟩, _, _, h => by subst e; simp at h
  | b :: io, s :: ρ, σ, v :: vs, A, k, ⟨o, r, C, D, e, h1, h2, h3⟩, hi, hl, hs => by
    subst e
    have rest : ∃ B, RepS F H (backOf io ρ) (vs.map some) B ∧ ∀ a, B a ≤ D a := back_rep (k := k + 1) h2 (fun i hm j ej => by
      have := hi i (by cases b <;> simp [ioIdx, hm]) (j + 1) (by omega)
      simpa using this) (by simpa using hl) (by simpa using hs)
    obtain ⟨B, hB, lB⟩ := rest
    cases b with
    | false => exact ⟨fun a => 0 + B a, ⟨some v, vs.map some, fun _ => 0, B, rfl, fun _ => rfl, hB, fun _ => rfl⟩, fun a => by have := lB a; have := h3 a; show 0 + B a ≤ A a; omega⟩
    | true =>
      have ev := hi k (by simp [ioIdx]) 0 rfl
      have ev : o = some v := by simpa using ev
      subst ev
      exact ⟨fun a => C a + B a, ⟨some v, vs.map some, C, B, rfl, h1, hB, fun _ => rfl⟩, fun a => by have := lB a; have := h3 a; show C a + B a ≤ A a; omega⟩
section
variable {G : Glob}
/-- a body's context -/
theorem body_wls (g : GlobOk G) {j : Nat} (fns : Fns G (callF G.pg j) j) {fn : Fn} {f : PySem.Str} {qual : PySem.Str} {a : Addr} {cdv : Value} {A : Around} {outer : List Env} {s : Shared} {H : Hp} {E : XK} (S : FnScope fn.N fn.ps fn.sc) (hr : Room j (A.deeper (envOfC qual fn.sc s.heap.objs.size a cdv))) (hgd : A.guards = some []) :
    WlS G (cxOf (CX G.P G.w) G.P G.w G.K G.mg G.base fn.N qual fn.sc a cdv A outer s H E) (cx0 fn) (callF G.pg j) j (fun cls d _ H' => E cls d H') where
  w := {
    c := ⟨rfl, rfl, S.nd⟩
    rn := ⟨⟨rfl, rfl, rfl, rfl, rfl⟩, fns, hr, hgd⟩
    z := ⟨g.sys, hgd, by have := hr.un; show (A.deeper (envOfC qual fn.sc s.heap.objs.size a cdv)).units + 200 < cLine; omega, rfl⟩
    tk := takes_of rfl rfl rfl rfl
    free := g.free
    con := g.con }
  hp := passes_of rfl
  so := ⟨fun x i h => by
    unfold stSlot at h
    split at h
    · rename_i hc
      obtain ⟨h1, h2⟩ := and_t hc
      refine ⟨idx_at h, ?_, .inl rfl⟩
      have h1 : loc fn.sc x = true := h1
      unfold loc at h1
      split at h1
      · rename_i e; exact .inl e
      · rename_i e; exact .inr e
      · cases h1
    · cases h⟩
  kd := by
    show (fn.sc.kind == .function) = true
    rw [S.kind]
    rfl
theorem ioIdx_lt : ∀ {io : List Bool} {k i : Nat}, i ∈ ioIdx k io → i < k + io.length
  | [], _, _, h => by cases h
  | true :: io, k, i, h => by
    rcases List.mem_cons.mp h with rfl | h
    · rw [List.length_cons]; omega
    · have := ioIdx_lt h; rw [List.length_cons]; omega
  | false :: io, k, i, h => by have := ioIdx_lt (show i ∈ ioIdx (k + 1) io from h); rw [List.length_cons]; omega
/-- a body's reading, out of what is promised of the def -/
theorem body_rd {fn : Fn} {F H : Hp} {A : Ft} {ss : List Slot} {vs : List V} {Q : VK} {E : XK} (hl : vs.length = fn.ps.length) (hio : fn.io.length = fn.ps.length) (hN : fn.ps.length ≤ fn.N.length) (fk : FOk F H) (rs : RepS F H ss (vs.map some) A) (le : ∀ a, A a ≤ 1) {m : M Flw}
    (h : match outOf fn (m (start0 fn ss)) with
      | none => False
      | some (.exc c d) => ∀ cls dx F' H' A', Go F H A F' H' A' → FOk F' H' → ExcRep G F' H' c d cls dx → E cls dx H'
      | some (.ok v back) => ∀ x F' H' A' B, Go F H A F' H' (fun a => A' a + B a) → FOk F' H' → RepS F' H' back (vs.map some) A' → Rep F' H' v.1 v.2 x B → (∀ a, A' a + B a ≤ 1) → Q x H') :
    tS G (fun cls d _ H' => E cls d H') (cx0 fn).pr m { nx := fun _ H' => Q .non H', rt := Q } (L2.start fn.N vs) H := by
  refine ⟨F, A, start0 fn ss, ⟨fk, start_rep rs, le⟩, ?_⟩
  have back : ∀ {σ' : L2.St} {F' H' : Hp} {A' : Ft} {ρ' : Sts}, Ok F' H' σ' ρ' A' → KeepS (cx0 fn).pr (start0 fn ss) (L2.start fn.N vs) σ' → ∃ B, RepS F' H' (backOf fn.io ρ') (vs.map some) B ∧ ∀ a, B a ≤ A' a := fun {σ' F' H' A' ρ'} ok ks => by
    have ls : (L2.start fn.N vs).length = fn.N.length := by
      unfold L2.start
      rw [List.length_append, List.length_map, List.length_replicate]
      omega
    refine back_rep (k := 0) ok.rep (fun i hi j ej => ?_) (by omega) (by rw [ks.len, ls]; omega)
    have ej : i = j := by omega
    subst ej
    have hlt := ioIdx_lt hi
    rw [ks.pr i hi]
    unfold L2.start
    rw [List.getElem?_append_left (by rw [List.length_map]; omega)]
  cases e : m (start0 fn ss) with
  | none => rw [e] at h; exact h
  | some r =>
    rw [e] at h
    cases r with
    | exc c d ρ' => exact fun cls dx σ' F' H' A' g ok ks er => h cls dx F' H' A' g ok.fok er
    | ok f ρ' =>
      cases f with
      | nx =>
        intro σ' F' H' A' g ok ks
        obtain ⟨B, rb, lb⟩ := back ok ks
        exact h .non F' H' B (fun _ => 0) (g.less fun a z => by have := lb a; have z' : B a + 0 ≠ 0 := z; omega) ok.fok rb ⟨rfl, fun _ => rfl⟩ fun a => by have := lb a; have := ok.one a; show B a + 0 ≤ 1; omega
      | bk => exact (h : False).elim
      | ct => exact (h : False).elim
      | rt v =>
        intro σ' x F' H' A' B g ok r le' ks
        obtain ⟨C, rb, lb⟩ := back ok ks
        exact h x F' H' C B (g.less fun a z => by have := lb a; have z' : C a + B a ≠ 0 := z; show A' a + B a ≠ 0; omega) ok.fok rb r fun a => by have := lb a; have := le' a; omega
theorem fn_step (g : GlobOk G) {j : Nat} (fns : Fns G (callF G.pg j) j) {f : PySem.Str} {fn : Fn} (hf : G.pg.fn f = some fn) (d : DefG G f fn) : ∃ a fd, FnG G (callF G.pg (j + 1)) (j + 1) f fn a fd := by
  obtain ⟨a, fd, qual, as, hmg, FD, eps⟩ := d.ex
  obtain ⟨oc, od, dV, kV, doc, pm, an, cdv, ct, osl, rfl, lk, hcd, hD, hK⟩ := FD.ex
  have e0 : dV = .none := by
    rcases hD with ⟨_, e⟩ | ⟨e, _⟩
    · exact e
    · exact absurd rfl e
  subst e0
  have hcall : ∀ ss, callF G.pg (j + 1) f ss = enter G.pg (callF G.pg j) fn ss := fun ss => by
    show (match G.pg.fn f with
      | none => none
      | some fn => enter G.pg (callF G.pg j) fn ss) = _
    rw [hf]
  have S := d.S
  have hN : fn.ps.length ≤ fn.N.length := by have := congrArg List.length S.pre; rw [List.length_take] at this; omega
  refine ⟨a, PySem.W.fnOf f qual ⟨[], as, none, [], [], none, []⟩ fn.body fn.sc .none kV doc pm an cdv ct, hmg, FD.kp, d.nm, by rw [← eps]; exact bind_all, d.nd, fun ss h => ?_, fun A outer s H args us vs Q E hr hgd e0 hb r hsp => ?_⟩
  · rw [hcall] at h
    unfold enter at h
    by_cases hl : ss.length = fn.ps.length
    · exact hl
    · rw [if_neg hl] at h; exact absurd rfl h
  · obtain ⟨F0, A0, ss, fk, rs, le, h⟩ := hsp
    rw [hcall] at h
    unfold enter at h
    by_cases hl0 : ss.length = fn.ps.length
    case neg => rw [if_neg hl0] at h; exact (h : False).elim
    rw [if_pos hl0] at h
    have hl : vs.length = fn.ps.length := by have := RepS.len rs; rw [List.length_map] at this; omega
    have inK : G.K.In s.heap := e0.mod.kin.keeps fun b o q => (e0.bs b o q).1
    have noL : s.heap.NoLimit := e0.mod.nolimit.keeps fun b o q => (e0.bs b o q).1
    have kinds : ∀ y ∈ fn.ps.zip us, fn.sc.names.lookup y.1 = some .local ∨ (fn.sc.names.lookup y.1 = some .cell ∧ ((cellsFrom (s.heap.objs.size + 1) fn.sc.names []).lookup y.1).isSome = true) := fun y hy => by
      rcases S.par y.1 (List.of_mem_zip (a := y.1) (b := y.2) hy).1 with q | q
      · exact .inl q
      · exact .inr ⟨q, PySem.W.cellsFrom_some _ _ _ (.inl q)⟩
    refine codeAny_call_function (hr.depth) (inK _ _ lk) rfl S.co S.gen rfl (PySem.W.codeRec_of inK hcd) (hb _ _ _ _ ?_)
    refine wpAny_newFunctionEnv_cells S.kind kinds fun env he s1 xx => ?_
    subst he
    refine ⟨noL.keeps xx.toInCall.keep, codeAny_func ?_⟩
    have w := body_wls g fns (fn := fn) (f := f) (qual := qual) (a := a) (cdv := cdv) (A := A) (outer := outer) (s := s) (H := H) (E := E) S (hr.deeper _) hgd
    have I0 : Inv (cxOf (CX G.P G.w) G.P G.w G.K G.mg G.base fn.N qual fn.sc a cdv A outer s H E) [] (L2.start fn.N vs) H s1 := inv_start S hr.hd e0 hl r xx
    have hq := body_rd (G := G) hl d.io hN fk rs le h
    refine wpAny_mono ((s_blk (evS_ok w depthN) (Stay.evS depthN (cx0 fn)) fn.body).run [] s1 (L2.start fn.N vs) H _ I0 hq) (fun fl s' hs => ?_) fun e s' hs => hs
    have fin : ∀ {σ' : L2.St} {H' : Hp} {v : V} {u : Value}, Inv (cxOf (CX G.P G.w) G.P G.w G.K G.mg G.base fn.N qual fn.sc a cdv A outer s H E) [] σ' H' s' → RelV v u → Q v H' → CE outer G.P G.w H s Q u s' :=
      fun {σ' H' v u} J rv q => ⟨v, H', J.os, J.bare, J.base, J.hok, rv, q⟩
    cases fl with
    | next => obtain ⟨σ', H', J, q⟩ := hs; exact fin (v := V.non) (u := Value.none) J rfl q
    | ret u => obtain ⟨v, σ', H', J, rv, q⟩ := hs; exact fin J rv q
    | brk => obtain ⟨_, _, _, q⟩ := hs; exact q.elim
    | cont => obtain ⟨_, _, _, q⟩ := hs; exact q.elim
theorem fns_ok (g : GlobOk G) : ∀ j, Fns G (callF G.pg j) j
  | 0 => fun f fn hf => by
    have d := g.defs f fn hf
    obtain ⟨a, fd, qual, as, hmg, FD, eps⟩ := d.ex
    obtain ⟨oc, od, dV, kV, doc, pm, an, cdv, ct, osl, rfl, lk, hcd, hD, hK⟩ := FD.ex
    have e0 : dV = .none := by
      rcases hD with ⟨_, e⟩ | ⟨e, _⟩
      · exact e
      · exact absurd rfl e
    subst e0
    exact ⟨a, PySem.W.fnOf f qual ⟨[], as, none, [], [], none, []⟩ fn.body fn.sc .none kV doc pm an cdv ct, hmg, FD.kp, d.nm, by rw [← eps]; exact bind_all, d.nd, fun ss h => absurd rfl h, fun A outer s H args us vs Q E hr hgd e0 hb r ⟨_, _, _, _, _, _, h⟩ => (h : False).elim⟩
  | j + 1 => fun f fn hf => fn_step g (fns_ok g j) hf (g.defs f fn hf)
end
end PD
end
section
/-! PD41: the end of a law by the evaluator. -/
namespace PD
open PySem PySem.Spec PyProof.Rows L2
theorem fzs_ints (F : Hp) : ∀ ns : List Int, Fzs F (ns.map PyData.int) (ns.map V.int)
  | [] => rfl
  | n :: ns => ⟨.int n, _, rfl, rfl, fzs_ints F ns⟩
theorem law_run {P : Program} {w : World} {K : PySem.W.Frag} {mg mb : PySem.Str → Option Value} {pg : Prog} {cl : Callee} {fn : Fn} {k : Nat} {fa a : Addr} {x law : PySem.Str} {s1 : Shared} {vs : List Value} {ns : List Int}
    (KX : K.In s1.heap) (hns : s1.heap.Ns mainGlobals mg) (hb : s1.heap.Ns builtinsNs mb) (hbb : ∀ x : PySem.Str, x ≠ "__name__" → mb x = bootBuiltins x) (hlim : s1.heap.NoLimit) (hg : s1.gens = #[])
    (ha : s1.heap.get? a = some { cls := .type "list", data := .seq vs.toArray }) (hi : IntsAre vs ns) (hl : ns.length ≤ sizeLine) (hr : Room k callerA)
    (nl : ∀ b o, K.lookup b = some o → o.cls ≠ .type "list") (sys : ∃ o, s1.heap.get? sysModules = some o ∧ o.cls ≠ .type "list")
    (F : ∀ base : Heap, K.In base → base.Ns mainGlobals mg → (∃ o, base.get? sysModules = some o) → ∃ fd, FnG ⟨P, w, K, mg, base, pg⟩ cl k law fn fa fd) (hps : fn.ps = [x])
    (run : ∃ back, cl law [.val 0 (.list (ns.map PyData.int))] = some (.ok (0, .bool true) back)) :
    codeAny (model P w) callerA (.call (.ref fa) ⟨[.ref a], []⟩) (fun r s' => r = .ok (.ret (.bool true)) ∧ OldK s1.heap s'.heap ∧ s'.os = s1.os ∧ AllBare s'.gens) s1 := by
  have rv := vals_ints hi
  have lenV := hi.length
  have Ka : K.lookup a = none := by
    cases e : K.lookup a with
    | none => rfl
    | some o =>
      have q := KX a o e
      rw [ha] at q
      cases q
      exact absurd rfl (nl a _ e)
  generalize hH : (fun b => if b = a then some (HO.frz { cls := .type "list", data := .seq vs.toArray } (.lst (ns.map V.int))) else none : Hp) = H
  have Ha : H a = some (HO.frz { cls := .type "list", data := .seq vs.toArray } (.lst (ns.map V.int))) := by rw [← hH]; exact if_pos rfl
  have Hn : ∀ b, b ≠ a → H b = none := fun b n => by rw [← hH]; exact if_neg n
  have hok : HOk P w H s1.heap := fun b u z => by
    by_cases q : b = a
    · subst q
      rw [Ha] at z
      cases z
      exact ⟨ha, by rw [List.length_map]; exact hl, vs, _, rv, ha⟩
    · rw [Hn b q] at z
      cases z
  have inB : ∀ {b : Addr} {o : Obj}, s1.heap.get? b = some o → b ≠ a → (hidT s1.heap H).get? b = some o := fun {b o} e n => hidT_get e (Hn b n)
  have dicB : ∀ {b : Addr} {o : Obj} {es : Array DictEntry} {ep : Nat}, s1.heap.get? b = some o → o.data = .dict es ep → b ≠ a := fun {b o es ep} e q z => by
    rw [z, ha] at e
    cases e
    cases (show Data.seq vs.toArray _ = Data.dict es ep from q)
  have nsB : ∀ {b : Addr} {m : PySem.Str → Option Value}, s1.heap.Ns b m → (hidT s1.heap H).Ns b m := fun {b m} ⟨o, es, ep, e, q, r⟩ => ⟨o, es, ep, inB e (dicB e q), q, r⟩
  have hKb : K.In (hidT s1.heap H) := fun b o e => inB (KX b o e) fun z => by rw [z, Ka] at e; cases e
  have hM : Mod K mg (hidT s1.heap H) := ⟨hKb, nsB hns, ⟨mb, nsB hb, hbb⟩, let ⟨mc, h1, h2⟩ := hlim; ⟨mc, nsB h1, h2⟩⟩
  have e0 : Env0 P w K mg (hidT s1.heap H) callerA [] s1 H := ⟨rfl, hM, fun b o e => of_hidT e, Nat.le_of_eq (hidT_size _ _), trivial, fun b z => (by cases (show b ∈ ([] : List Addr) from z)), hok, .of_eq hg⟩
  have hsys : ∃ o, (hidT s1.heap H).get? sysModules = some o := by
    obtain ⟨o, e, n⟩ := sys
    exact ⟨o, inB e fun z => by rw [z, ha] at e; cases e; exact n rfl⟩
  obtain ⟨fd, FG⟩ := F _ hKb (nsB hns) hsys
  have bt : BindsTo s1 fd ⟨[.ref a], []⟩ (fn.ps.zip [.ref a]) := by
    have := FG.bd [.ref a] [] [] [] rfl (by rw [hps]; rfl) (kwOk_nil (by rw [hps]; rfl) FG.nd)
    rw [List.append_nil] at this
    exact .of_eq this
  have sp : spC ⟨P, w, K, mg, hidT s1.heap H, pg⟩ cl law [.ref a] H (fun v _ => v = .bl true) (fun _ _ _ => False) := by
    obtain ⟨back, e⟩ := run
    refine ⟨fun b => if b = a then some (.lst (ns.map V.int)) else none, fun _ => 0, [.val 0 (.list (ns.map PyData.int))], fun b u z => ?_, ⟨some (.ref a), [], fun _ => 0, fun _ => 0, rfl, ⟨.ref a, rfl, ⟨a, _, rfl, if_pos rfl, fzs_ints _ ns⟩, fun _ => rfl⟩, ⟨rfl, fun _ => rfl⟩, fun _ => rfl⟩, fun _ => Nat.zero_le _, ?_⟩
    · by_cases q : b = a
      · subst q
        have z' := (if_pos rfl).symm.trans z
        cases z'
        exact .inr ⟨_, Ha⟩
      · have z' := (if_neg q).symm.trans z
        cases z'
    · rw [e]
      intro v F' H' A' B g fk rs r le
      exact r.1
  refine codeAny_mono (FG.run callerA [] s1 H ⟨[.ref a], []⟩ [.ref a] [.ref a] _ _ hr rfl e0 bt (.cons rfl .nil) sp) fun r s' h => ?_
  cases r with
  | error e =>
    obtain ⟨_, _, _, _, _, _, _, _, _, _, _, _, z⟩ := h
    exact z.elim
  | ok fl =>
    cases fl with
    | next => exact False.elim h
    | brk => exact False.elim h
    | cont => exact False.elim h
    | ret u =>
      obtain ⟨v, H', os, bare, un, hok', rr, q⟩ := h
      obtain rfl : v = .bl true := q
      obtain rfl : u = Value.bool true := rr
      refine ⟨rfl, OldK.of_keep fun b o e => ?_, os, bare⟩
      by_cases q : b = a
      · subst q
        have z2 := un.frzs b _ _ Ha
        obtain ⟨e2, _⟩ := hok' b _ z2
        rw [ha] at e
        cases e
        exact e2
      · exact un.keep b o e (Hn b q) (fun z => by cases (show b ∈ ([] : List Addr) from z)) (by simp)
/-! ### the head's facts -/
def extra (K : PySem.W.Frag) (g : Addr → Option Obj) : Bool := (match g sysModules with
  | some o => (match o.cls with
    | .type c => decide (c ≠ "list")
    | _ => true)
  | none => false) && K.all fun p => match p.2.cls with
  | .type c => decide (c ≠ "list")
  | _ => true
abbrev AlM : Type := He.AlD × Bool
def obsM (n : Nat) (fa : List He.Fa) (fn : List He.DefD) (g : Addr → Option Obj) : AlM := (He.obsD fa fn (He.frG g (He.asD g n)), extra (He.frG g (He.asD g n)) g)
theorem mem_look {α : Type} {a : Addr} {o : α} : ∀ {l : List (Addr × α)}, l.lookup a = some o → (a, o) ∈ l
  | [], h => by cases h
  | (b, u) :: l, h => by
    rw [List.lookup_cons] at h
    cases e : (a == b) with
    | true => rw [e] at h; cases h; rw [eq_of_beq e]; exact List.mem_cons_self ..
    | false => rw [e] at h; exact List.mem_cons_of_mem _ (mem_look h)
theorem cls_ne {o : Obj} (h : (match o.cls with
    | .type c => decide (c ≠ "list")
    | _ => true) = true) : o.cls ≠ .type "list" := fun e => by
  rw [e] at h
  exact absurd rfl (of_decide_eq_true h)
def hookM (n : Nat) (fa : List He.Fa) (fn : List He.DefD) : PySem.W.Hook where
  α := AlM
  obs := fun s => obsM n fa fn s.heap.get?
  val := fun _ => (He.valD fn, true)
  says := fun _ h => ∃ K : PySem.W.Frag, K.In h ∧ He.SaysD fa fn K ∧ (∀ b o, K.lookup b = some o → o.cls ≠ .type "list") ∧ ∃ o, h.get? sysModules = some o ∧ o.cls ≠ .type "list"
  of := fun _ s e => by
    have e1 : He.obsD fa fn _ = He.valD fn := congrArg Prod.fst e
    have e2 : extra _ s.heap.get? = true := congrArg Prod.snd e
    obtain ⟨h1, h2⟩ := and_t e2
    refine ⟨_, He.frG_in, e1, fun b o hb => cls_ne (List.all_eq_true.mp h2 (b, o) (mem_look hb)), ?_⟩
    cases q : s.heap.get? sysModules with
    | none => rw [q] at h1; cases h1
    | some o => rw [q] at h1; exact ⟨o, rfl, cls_ne h1⟩
  keeps := fun _ _ _ ⟨K, hK, c, nl, o, e, n⟩ k => ⟨K, PySem.W.Frag.In.keeps hK k, c, nl, o, k _ _ e, n⟩
end PD
end
section
/-! PDT: a row's tables, the evaluator's program of them. -/
namespace PD
open PySem PySem.Spec PyProof.Rows L2
structure RowT where
  fn : List He.DefD
  rows : List (List PySem.Str × List Bool)
  frees : List PySem.Str
  txts : List (PySem.Str × PySem.Str)
  nums : List (PySem.Str × Int)
  mvs : List Pos
  ros : List Pos
def mkFn (d : He.DefD) (r : List PySem.Str × List Bool) : Fn := ⟨d.name, d.params.args.map (·.arg), r.1, d.body, d.scope, r.2⟩
def RowT.fa (r : RowT) : List He.Fa := r.fn.map (fun d => .glo d.name) ++ (r.frees.map .free ++ (r.txts.map (fun p => .str p.1 p.2) ++ r.nums.map (fun p => .int p.1 p.2)))
def RowT.fns (r : RowT) : List Fn := List.zipWith mkFn r.fn r.rows
def RowT.con (r : RowT) (x : PySem.Str) : Option PyData := match r.txts.lookup x with
  | some z => some (.str z)
  | none => (match r.nums.lookup x with
    | some i => some (.int i)
    | none => none)
def RowT.prog (r : RowT) : Prog := { fn := fun x => r.fns.find? fun f => decide (f.name = x), con := r.con, free := fun x => r.frees.contains x, mv := fun p => r.mvs.contains p, ro := fun p => r.ros.contains p }
end PD
end
section
/-! PD42: a row by its tables. -/
namespace PD
open PySem PySem.Spec PyProof.Rows L2
def okRow (d : He.DefD) (r : List PySem.Str × List Bool) : Bool :=
  (match d.at_ with
    | (x, none) => decide (x = d.name)
    | _ => false) && (match d.params with
    | ⟨[], _, none, [], [], none, []⟩ => true
    | _ => false) && d.dfl.isEmpty && d.kwd.isEmpty && (match d.scope.kind with
    | .function => true
    | _ => false) && !d.scope.isCoroutine && !d.scope.isGenerator && decide r.1.Nodup && decide (r.1.take (d.params.args.map (·.arg)).length = d.params.args.map (·.arg)) &&
  ((d.params.args.map (·.arg)).all fun x => match d.scope.names.lookup x with
    | some .local => true
    | some .cell => true
    | _ => false) && (d.scope.names.all fun y => match y.2 with
    | .free => false
    | _ => true) && !(d.name == ("__debug__" : PySem.Str)) && decide (d.params.args.map (·.arg)).Nodup && decide (r.2.length = (d.params.args.map (·.arg)).length)
def RowT.ok (r : RowT) : Bool := (List.zipWith okRow r.fn r.rows).all id
theorem zip_mem {α β γ : Type} {f : α → β → γ} {z : γ} : ∀ {xs : List α} {ys : List β}, z ∈ List.zipWith f xs ys → ∃ (i : Nat) (x : α) (y : β), xs[i]? = some x ∧ ys[i]? = some y ∧ z = f x y
  | [], ys, h => by simp at h
  | x :: xs, [], h => by simp at h
  | x :: xs, y :: ys, h => by
    rw [List.zipWith_cons_cons] at h
    rcases List.mem_cons.mp h with rfl | h
    · exact ⟨0, x, y, rfl, rfl, rfl⟩
    · obtain ⟨i, x', y', e1, e2, e3⟩ := zip_mem h
      exact ⟨i + 1, x', y', e1, e2, e3⟩
theorem all_zip {α β : Type} {f : α → β → Bool} : ∀ {xs : List α} {ys : List β} {i : Nat} {x : α} {y : β}, (List.zipWith f xs ys).all id = true → xs[i]? = some x → ys[i]? = some y → f x y = true
  | [], ys, i, x, y, _, h, _ => by simp at h
  | x :: xs, [], i, _, _, _, _, h => by simp at h
  | x :: xs, y :: ys, 0, _, _, h, h1, h2 => by
    simp at h1 h2
    subst h1 h2
    rw [List.zipWith_cons_cons, List.all_cons] at h
    exact (and_t h).1
  | x :: xs, y :: ys, i + 1, x', y', h, h1, h2 => by
    rw [List.zipWith_cons_cons, List.all_cons] at h
    exact all_zip (and_t h).2 (by simpa using h1) (by simpa using h2)
theorem not_t {b : Bool} (h : (!b) = true) : b = false := by cases b <;> first | rfl | cases h
section
variable {r : RowT} {P : Program} {w : World} {K : PySem.W.Frag} {mg : PySem.Str → Option Value} {base h : Heap}
theorem RowT.fact (c : He.SaysD r.fa r.fn K) {f : He.Fa} (hf : f ∈ r.fa) : f.ok K = true := by
  obtain ⟨i, hi, e⟩ := List.mem_iff_getElem.mp hf
  exact c.fact i (by rw [List.getElem?_eq_getElem hi, e])
theorem RowT.glob (ok : r.ok = true) (X : K.In h) (G : h.Ns mainGlobals mg) (c : He.SaysD r.fa r.fn K) (sys : ∃ o, base.get? sysModules = some o) : GlobOk ⟨P, w, K, mg, base, r.prog⟩ where
  sys := sys
  free := fun x hx => by
    have hx : r.frees.contains x = true := hx
    exact He.free_ok X G (RowT.fact c (List.mem_append.mpr (.inr (List.mem_append.mpr (.inl (List.mem_map.mpr ⟨x, List.contains_iff_mem.mp hx, rfl⟩))))))
  con := fun x d hd => by
    have hd : r.con x = some d := hd
    unfold RowT.con at hd
    split at hd
    · rename_i z e
      cases hd
      obtain ⟨t, ht⟩ := He.str_ok X G (x := x) (z := z) (RowT.fact c (List.mem_append.mpr (.inr (List.mem_append.mpr (.inr (List.mem_append.mpr (.inl (List.mem_map.mpr ⟨(x, z), PySem.mem_of_lookup e, rfl⟩))))))))
      exact ⟨.str z, _, ht, ⟨t, rfl⟩, fun F => rfl⟩
    · split at hd
      · rename_i i e
        cases hd
        obtain ⟨t, ht⟩ := He.int_ok X G (x := x) (i := i) (RowT.fact c (List.mem_append.mpr (.inr (List.mem_append.mpr (.inr (List.mem_append.mpr (.inr (List.mem_map.mpr ⟨(x, i), PySem.mem_of_lookup e, rfl⟩))))))))
        exact ⟨.int i, _, ht, ⟨t, rfl⟩, fun F => rfl⟩
      · cases hd
  defs := fun f fn hf => by
    have hf : (r.fns.find? fun f' => decide (f'.name = f)) = some fn := hf
    have hm := List.mem_of_find?_eq_some hf
    have hn : fn.name = f := of_decide_eq_true (List.find?_some (p := fun f' : Fn => decide (f'.name = f)) hf)
    obtain ⟨i, d, q, e1, e2, rfl⟩ := zip_mem hm
    have o := all_zip ok e1 e2
    obtain ⟨fd, FD⟩ := c.def_ i e1
    unfold okRow at o
    obtain ⟨o, o14⟩ := and_t o
    obtain ⟨o, o13⟩ := and_t o
    obtain ⟨o, o12⟩ := and_t o
    obtain ⟨o, o11⟩ := and_t o
    obtain ⟨o, o10⟩ := and_t o
    obtain ⟨o, o9⟩ := and_t o
    obtain ⟨o, o8⟩ := and_t o
    obtain ⟨o, o7⟩ := and_t o
    obtain ⟨o, o6⟩ := and_t o
    obtain ⟨o, o5⟩ := and_t o
    obtain ⟨o, o4⟩ := and_t o
    obtain ⟨o, o3⟩ := and_t o
    obtain ⟨o1, o2⟩ := and_t o
    have glo := He.glo_ok X G (x := d.name) (RowT.fact c (List.mem_append.mpr (.inl (List.mem_map.mpr ⟨d, List.mem_of_getElem? e1, rfl⟩))))
    have eat : He.fAd K d.at_ = He.ga K d.name := by
      split at o1
      · rename_i x e
        rw [e, of_decide_eq_true o1]
        rfl
      · cases o1
    have e3 : d.dvs K = [] := by
      unfold He.DefD.dvs
      rw [List.isEmpty_iff.mp o3]
      rfl
    have e4 : d.kws K = [] := by
      unfold He.DefD.kws
      rw [List.isEmpty_iff.mp o4]
      rfl
    rw [e3, e4, eat] at FD
    have e2' : d.params = ⟨[], d.params.args, none, [], [], none, []⟩ := by
      split at o2
      · rename_i e
        rw [e]
      · cases o2
    rw [e2'] at FD
    have hn : d.name = f := hn
    subst hn
    refine ⟨⟨_, fd, d.qual, d.params.args, glo, FD, rfl⟩, ⟨?_, not_t o6, not_t o7, of_decide_eq_true o8, of_decide_eq_true o9, fun x hx => ?_, fun y hy z => ?_⟩, not_t o12, of_decide_eq_true o13, of_decide_eq_true o14⟩
    · show d.scope.kind = .function
      split at o5
      · assumption
      · cases o5
    · have := List.all_eq_true.mp o10 x hx
      show d.scope.names.lookup x = some .local ∨ d.scope.names.lookup x = some .cell
      split at this
      · rename_i e; exact .inl e
      · rename_i e; exact .inr e
      · cases this
    · have := List.all_eq_true.mp o11 y hy
      rw [z] at this
      cases this
/-- the law's end: what is left is the evaluator's run -/
theorem RowT.walk {l : PySem.W.OpenLaw} {n k : Nat} {q : Program} {loose : List PySem.Str} {XP : (PySem.Str → Option Value) → Heap → Prop} {d : DefRec} {x : PySem.Str} {f0 : Fn} (ok : r.ok = true) (hn : l.most = some n) (hn2 : n ≤ sizeLine) (hdf : d.params.defaults = []) (hr : Room k callerA)
    (hf : r.prog.fn d.name = some f0) (hps : f0.ps = [x]) (run : ∀ ns : List Int, ns.length ≤ n → ∃ back, callF r.prog k d.name [.val 0 (.list (ns.map PyData.int))] = some (.ok (0, .bool true) back)) :
    PySem.W.WalkO q loose XP (fun _ h => ∃ K : PySem.W.Frag, K.In h ∧ He.SaysD r.fa r.fn K ∧ (∀ b o, K.lookup b = some o → o.cls ≠ .type "list") ∧ ∃ o, h.get? sysModules = some o ∧ o.cls ≠ .type "list") l.row.toRowW d [] (fun f vs => PySem.call f vs) := by
  refine Att.attach_call hn hdf fun w s₀ s₁ mg mb fa o pm cd doc a vs ns G Y ho hd hcd hmg hobj hints hlen hg => ?_
  obtain ⟨K, KX, c, nl, sys⟩ := Y
  refine law_run (pg := r.prog) (cl := callF r.prog k) (fn := f0) (law := d.name) (k := k) KX G.T.g G.T.b G.T.builtins G.T.nolimit hg hobj hints (Nat.le_trans hlen hn2) hr nl sys (fun base hK hN hs => ?_) hps (run ns hlen)
  have g : GlobOk ⟨l.prog, w, K, mg, base, r.prog⟩ := RowT.glob ok hK hN c hs
  obtain ⟨a', fd, FG⟩ := fns_ok g k d.name f0 hf
  have e : mg d.name = some (.ref a') := FG.mg
  rw [hmg] at e
  cases e
  exact ⟨fd, FG⟩
end
end PD
end
section
/-! PW: the evaluator's parts, how they run. -/
namespace PD
open PySem
variable {α β : Type}
/-! ### the parts by which a text is told -/
def sq (a b : M Flw) : M Flw := bnd a fun f => match f with
  | .nx => b
  | f => ret f
def rt (m : M Vl) : M Flw := bnd m fun v => ret (.rt v)
def dp (m : M Vl) : M Flw := bnd m fun _ => ret .nx
def xAnd (a b : M Vl) : M Vl := bnd (tst a) fun t => if t = true then b else ret (0, .bool false)
def xOr (a b : M Vl) : M Vl := bnd (tst a) fun t => if t = true then ret (0, .bool true) else b
def evsM : List (M Vl) → M (List Vl)
  | [] => ret []
  | m :: r => bnd m fun v => bnd (evsM r) fun vs => ret (v :: vs)
def argsM : List (M Arg) → M (List Arg)
  | [] => ret []
  | m :: r => bnd m fun a => bnd (argsM r) fun as => ret (a :: as)
def aV (m : M Vl) : M Arg := bnd m fun v => ret (.v v)
def aL (i : Nat) : M Arg := bnd (slotO i) fun _ => ret (.lend i)
def prs : List (M Vl × M Vl) → M (List (PyData × Vl))
  | [] => ret []
  | p :: r => bnd p.1 fun dk => bnd p.2 fun dv => bnd (prs r) fun l => ret ((dk.2, dv) :: l)
def oInt (m : M Vl) : M (Option Int) := bnd m fun v => bnd (asIntK v) fun i => ret (some i)
def pickI : List Nat → List α → Option (List α)
  | [], _ => some []
  | i :: r, vs => (match vs[i]?, pickI r vs with
    | some v, some l => some (v :: l)
    | _, _ => none)
def callI (cl : Callee) (f : Str) (is : List Nat) (bs : List Arg) : M Vl := match pickI is bs with
  | some cs => cCall cl f cs
  | none => stuck
def untups : List (Vl → M Unit) → Nat → List PyData → M Unit
  | [], _, [] => ret ()
  | f :: fs, k, x :: xs => bnd (f (k, x)) fun _ => untups fs k xs
  | _, _, _ => stuck
def untup (v : Vl) (fs : List (Vl → M Unit)) : M Unit := match v.2 with
  | .tuple xs => untups fs (v.1 - 1) xs
  | _ => stuck
def stoM : List (Vl → M Unit) → List Vl → M Unit
  | [], [] => ret ()
  | f :: fs, v :: vs => bnd (f v) fun _ => stoM fs vs
  | _, _ => stuck
def outF (io : List Bool) (r : Option (Res Flw)) : Option CRes := match r with
  | none => none
  | some (.exc c d _) => some (.exc c d)
  | some (.ok f ρ) => (match f with
      | .rt v => some (.ok v (backOf io ρ))
      | .nx => some (.ok (0, .none) (backOf io ρ))
      | _ => none)

/-! ### running -/
/-- a mark that keeps its thing as it stands: what depends on it is not rewritten -/
def Fx {γ : Sort _} (_a : γ) : Type := Unit
@[irreducible] def wp (m : M α) (ρ : Sts) (Q : α → Sts → Prop) (_e : Fx Q := ()) : Prop := match m ρ with
  | some (.ok a ρ') => Q a ρ'
  | _ => False
theorem wp_def {m : M α} {ρ : Sts} {Q : α → Sts → Prop} : wp m ρ Q ↔ ∃ a ρ', m ρ = some (.ok a ρ') ∧ Q a ρ' := by
  unfold wp
  constructor
  · intro h
    split at h
    · exact ⟨_, _, by assumption, h⟩
    · exact h.elim
  · rintro ⟨a, ρ', e, q⟩
    rw [e]
    exact q
theorem wp_mono {m : M α} {ρ : Sts} {Q Q' : α → Sts → Prop} (h : wp m ρ Q) (i : ∀ a ρ', Q a ρ' → Q' a ρ') : wp m ρ Q' := by
  obtain ⟨a, ρ', e, q⟩ := wp_def.mp h
  exact wp_def.mpr ⟨a, ρ', e, i _ _ q⟩
def wO (o : Option α) (k : α → Prop) (_d : Fx k := ()) : Prop := match o with
  | some a => k a
  | none => False
@[simp] theorem wO_some {a : α} {k : α → Prop} : wO (some a) k = k a := rfl
@[simp] theorem wO_none {k : α → Prop} : wO none k = False := rfl
/-- a slot that holds a value -/
def wSv (o : Option Slot) (k : Nat → PyData → Prop) (_d : Fx k := ()) : Prop := match o with
  | some (.val n d) => k n d
  | _ => False
@[simp] theorem wSv_val {n : Nat} {d : PyData} {k : Nat → PyData → Prop} : wSv (some (.val n d)) k = k n d := rfl
@[simp] theorem wSv_ro {d : PyData} {k : Nat → PyData → Prop} : wSv (some (.ro d)) k = False := rfl
@[simp] theorem wSv_dead {k : Nat → PyData → Prop} : wSv (some .dead) k = False := rfl
@[simp] theorem wSv_none {k : Nat → PyData → Prop} : wSv none k = False := rfl
/-- a slot that may be looked at -/
def wKd (o : Option Slot) (k : Nat → PyData → Prop) (g : PyData → Prop) (_d : Fx k := ()) (_e : Fx g := ()) : Prop := match o with
  | some (.val n d) => k n d
  | some (.ro d) => g d
  | _ => False
@[simp] theorem wKd_val {n : Nat} {d : PyData} {k : Nat → PyData → Prop} {g : PyData → Prop} : wKd (some (.val n d)) k g = k n d := rfl
@[simp] theorem wKd_ro {d : PyData} {k : Nat → PyData → Prop} {g : PyData → Prop} : wKd (some (.ro d)) k g = g d := rfl
@[simp] theorem wKd_dead {k : Nat → PyData → Prop} {g : PyData → Prop} : wKd (some .dead) k g = False := rfl
@[simp] theorem wKd_none {k : Nat → PyData → Prop} {g : PyData → Prop} : wKd none k g = False := rfl
/-- a slot that may be stored into -/
def wSt (o : Option Slot) (p : Prop) (_d : Fx p := ()) : Prop := match o with
  | none => False
  | some (.ro _) => False
  | some _ => p
@[simp] theorem wSt_val {n : Nat} {d : PyData} {p : Prop} : wSt (some (.val n d)) p = p := rfl
@[simp] theorem wSt_ro {d : PyData} {p : Prop} : wSt (some (.ro d)) p = False := rfl
@[simp] theorem wSt_dead {p : Prop} : wSt (some .dead) p = p := rfl
@[simp] theorem wSt_none {p : Prop} : wSt none p = False := rfl
/-- a slot that holds a list of one's own, a dict of one's own -/
def wMs (o : Option Slot) (f : Nat → List PyData → Prop) (g : Nat → List (PyData × PyData) → Prop) (_d : Fx f := ()) (_e : Fx g := ()) : Prop := match o with
  | some (.val (k + 1) (.list xs)) => f k xs
  | some (.val (k + 1) (.dict xs)) => g k xs
  | _ => False
@[simp] theorem wMs_list {k : Nat} {xs : List PyData} {f : Nat → List PyData → Prop} {g : Nat → List (PyData × PyData) → Prop} : wMs (some (.val (k + 1) (.list xs))) f g = f k xs := rfl
@[simp] theorem wMs_dict {k : Nat} {xs : List (PyData × PyData)} {f : Nat → List PyData → Prop} {g : Nat → List (PyData × PyData) → Prop} : wMs (some (.val (k + 1) (.dict xs))) f g = g k xs := rfl
@[simp] theorem wMs_list1 {xs : List PyData} {f : Nat → List PyData → Prop} {g : Nat → List (PyData × PyData) → Prop} : wMs (some (.val 1 (.list xs))) f g = f 0 xs := rfl
@[simp] theorem wMs_dict1 {xs : List (PyData × PyData)} {f : Nat → List PyData → Prop} {g : Nat → List (PyData × PyData) → Prop} : wMs (some (.val 1 (.dict xs))) f g = g 0 xs := rfl
def wBo (d : PyData) (k : Bool → Prop) (_d : Fx k := ()) : Prop := match d with
  | .bool b => k b
  | _ => False
@[simp] theorem wBo_bool {b : Bool} {k : Bool → Prop} : wBo (.bool b) k = k b := rfl
def wIn (d : PyData) (k : Int → Prop) (_d : Fx k := ()) : Prop := match d with
  | .int b => k b
  | _ => False
@[simp] theorem wIn_int {b : Int} {k : Int → Prop} : wIn (.int b) k = k b := rfl
def wCr (r : Option CRes) (k : Vl → List Slot → Prop) (_d : Fx k := ()) : Prop := match r with
  | some (.ok v back) => k v back
  | _ => False
@[simp] theorem wCr_ok {v : Vl} {back : List Slot} {k : Vl → List Slot → Prop} : wCr (some (.ok v back)) k = k v back := rfl
theorem wpx {m : M α} {ρ : Sts} {Q Q' : α → Sts → Prop} (h : ∀ a ρ', Q a ρ' = Q' a ρ') : wp m ρ Q = wp m ρ Q' := by
  have e : Q = Q' := funext fun a => funext fun ρ' => h a ρ'
  rw [e]
variable {ρ : Sts}
theorem wOx {o : Option α} {k k' : α → Prop} (h : ∀ a, k a = k' a) : wO o k = wO o k' := by
  have e : k = k' := funext h
  rw [e]
@[simp] theorem wp_ret {a : α} {Q : α → Sts → Prop} : wp (ret a) ρ Q = Q a ρ := by
  unfold wp
  rfl
@[simp] theorem wp_stuck {Q : α → Sts → Prop} : wp (stuck : M α) ρ Q = False := by
  unfold wp
  rfl
@[simp] theorem wp_bnd {m : M α} {k : α → M β} {Q : β → Sts → Prop} : wp (bnd m k) ρ Q = wp m ρ fun a ρ' => wp (k a) ρ' Q := by
  unfold wp bnd
  cases m ρ with
  | none => rfl
  | some r => cases r <;> rfl
@[simp] theorem wp_lif {o : Option α} {Q : α → Sts → Prop} : wp (lif o) ρ Q = wO (o) fun a => Q a ρ := by
  unfold wp
  cases o <;> rfl
@[simp] theorem wp_ite {c : Prop} [Decidable c] {a b : M α} {Q : α → Sts → Prop} : wp (if c then a else b) ρ Q = if c then wp a ρ Q else wp b ρ Q := by
  by_cases h : c
  · rw [if_pos h, if_pos h]
  · rw [if_neg h, if_neg h]
@[simp] theorem wp_sq {a b : M Flw} {Q : Flw → Sts → Prop} : wp (sq a b) ρ Q = wp a ρ fun f ρ' => match f with
  | .nx => wp b ρ' Q
  | f => Q f ρ' := by
  unfold sq
  rw [wp_bnd]
  refine wpx fun f ρ' => ?_
  cases f <;> first
    | rfl
    | exact wp_ret
@[simp] theorem wp_rt {m : M Vl} {Q : Flw → Sts → Prop} : wp (rt m) ρ Q = wp m ρ fun v ρ' => Q (.rt v) ρ' := by
  unfold PD.rt
  (repeat (first | rfl | simp only [wp_bnd, wp_ret] | refine wpx fun _ _ => ?_ | refine wOx fun _ => ?_))
@[simp] theorem wp_dp {m : M Vl} {Q : Flw → Sts → Prop} : wp (dp m) ρ Q = wp m ρ fun _ ρ' => Q .nx ρ' := by
  unfold PD.dp
  (repeat (first | rfl | simp only [wp_bnd, wp_ret] | refine wpx fun _ _ => ?_ | refine wOx fun _ => ?_))
@[simp] theorem wp_nxt {m : M Unit} {Q : Flw → Sts → Prop} : wp (nxt m) ρ Q = wp m ρ fun _ ρ' => Q .nx ρ' := by
  unfold PD.nxt
  (repeat (first | rfl | simp only [wp_bnd, wp_ret] | refine wpx fun _ _ => ?_ | refine wOx fun _ => ?_))
@[simp] theorem wp_cIf {c : M Bool} {a b : M α} {Q : α → Sts → Prop} : wp (cIf c a b) ρ Q = wp c ρ fun t ρ' => if t = true then wp a ρ' Q else wp b ρ' Q := by
  unfold cIf
  (repeat (first | rfl | simp only [wp_bnd, wp_ite] | refine wpx fun _ _ => ?_ | refine wOx fun _ => ?_))
@[simp] theorem wp_tst {m : M Vl} {Q : Bool → Sts → Prop} : wp (tst m) ρ Q = wp m ρ fun v ρ' => wBo v.2 fun b => Q b ρ' := by
  unfold tst
  rw [wp_bnd]
  refine wpx fun v ρ' => ?_
  obtain ⟨k, d⟩ := v
  unfold wp
  cases d <;> rfl
@[simp] theorem wp_asIntK {v : Vl} {Q : Int → Sts → Prop} : wp (asIntK v) ρ Q = wIn v.2 fun i => Q i ρ := by
  obtain ⟨k, d⟩ := v
  unfold wp
  cases d <;> rfl
@[simp] theorem wp_asInt {m : M Vl} {Q : Int → Sts → Prop} : wp (asInt m) ρ Q = wp m ρ fun v ρ' => wp (asIntK v) ρ' Q := by
  unfold PD.asInt
  (repeat (first | rfl | simp only [wp_bnd, wp_ret] | refine wpx fun _ _ => ?_ | refine wOx fun _ => ?_))
@[simp] theorem wp_oInt {m : M Vl} {Q : Option Int → Sts → Prop} : wp (oInt m) ρ Q = wp m ρ fun v ρ' => wp (asIntK v) ρ' fun i ρ'' => Q (some i) ρ'' := by
  unfold oInt
  (repeat (first | rfl | simp only [wp_bnd, wp_ret] | refine wpx fun _ _ => ?_ | refine wOx fun _ => ?_))
@[simp] theorem wp_xAnd {a b : M Vl} {Q : Vl → Sts → Prop} : wp (xAnd a b) ρ Q = wp (tst a) ρ fun t ρ' => if t = true then wp b ρ' Q else Q (0, .bool false) ρ' := by
  unfold xAnd
  (repeat (first | rfl | simp only [wp_bnd, wp_ite, wp_ret] | refine wpx fun _ _ => ?_ | refine wOx fun _ => ?_))
@[simp] theorem wp_xOr {a b : M Vl} {Q : Vl → Sts → Prop} : wp (xOr a b) ρ Q = wp (tst a) ρ fun t ρ' => if t = true then Q (0, .bool true) ρ' else wp b ρ' Q := by
  unfold xOr
  (repeat (first | rfl | simp only [wp_bnd, wp_ite, wp_ret] | refine wpx fun _ _ => ?_ | refine wOx fun _ => ?_))
@[simp] theorem wp_evsM_nil {Q : List Vl → Sts → Prop} : wp (evsM []) ρ Q = Q [] ρ := by
  unfold wp
  rfl
@[simp] theorem wp_evsM_cons {m : M Vl} {r : List (M Vl)} {Q : List Vl → Sts → Prop} : wp (evsM (m :: r)) ρ Q = wp m ρ fun v ρ' => wp (evsM r) ρ' fun vs ρ'' => Q (v :: vs) ρ'' := by
  show wp (bnd m fun v => bnd (evsM r) fun vs => ret (v :: vs)) ρ Q = _
  (repeat (first | rfl | simp only [wp_bnd, wp_ret] | refine wpx fun _ _ => ?_ | refine wOx fun _ => ?_))
@[simp] theorem wp_argsM_nil {Q : List Arg → Sts → Prop} : wp (argsM []) ρ Q = Q [] ρ := by
  unfold wp
  rfl
@[simp] theorem wp_argsM_cons {m : M Arg} {r : List (M Arg)} {Q : List Arg → Sts → Prop} : wp (argsM (m :: r)) ρ Q = wp m ρ fun v ρ' => wp (argsM r) ρ' fun vs ρ'' => Q (v :: vs) ρ'' := by
  show wp (bnd m fun v => bnd (argsM r) fun vs => ret (v :: vs)) ρ Q = _
  (repeat (first | rfl | simp only [wp_bnd, wp_ret] | refine wpx fun _ _ => ?_ | refine wOx fun _ => ?_))
@[simp] theorem wp_aV {m : M Vl} {Q : Arg → Sts → Prop} : wp (aV m) ρ Q = wp m ρ fun v ρ' => Q (.v v) ρ' := by
  unfold PD.aV
  (repeat (first | rfl | simp only [wp_bnd, wp_ret] | refine wpx fun _ _ => ?_ | refine wOx fun _ => ?_))
@[simp] theorem wp_slotO {i : Nat} {Q : Opd → Sts → Prop} : wp (slotO i) ρ Q = wO (rdS ρ i) fun _ => Q (.s i) ρ := by
  unfold wp slotO
  cases rdS ρ i <;> rfl
@[simp] theorem wp_aL {i : Nat} {Q : Arg → Sts → Prop} : wp (aL i) ρ Q = wO (rdS ρ i) fun _ => Q (.lend i) ρ := by
  unfold aL
  (repeat (first | rfl | simp only [wp_bnd, wp_slotO, wp_ret] | refine wpx fun _ _ => ?_ | refine wOx fun _ => ?_))
@[simp] theorem wp_tmp {m : M Vl} {Q : Opd → Sts → Prop} : wp (tmp m) ρ Q = wp m ρ fun v ρ' => Q (.t v.1 v.2) ρ' := by
  unfold PD.tmp
  (repeat (first | rfl | simp only [wp_bnd, wp_ret] | refine wpx fun _ _ => ?_ | refine wOx fun _ => ?_))
@[simp] theorem wp_peek {o : Opd} {Q : PyData → Sts → Prop} : wp (peek o) ρ Q = wO (rsv o ρ) fun d => Q d ρ := by
  unfold wp PD.peek
  cases rsv o ρ <;> rfl
@[simp] theorem wp_kids_t {k : Nat} {d : PyData} {Q : PyData → Sts → Prop} : wp (kids (.t k d)) ρ Q = Q d ρ := by
  unfold wp
  rfl
@[simp] theorem wp_kids_s {i : Nat} {Q : PyData → Sts → Prop} : wp (kids (.s i)) ρ Q = wKd ρ[i]? (fun k d => Q d (if 2 ≤ k then ρ.set i (.val 1 d) else ρ)) fun d => Q d ρ := by
  unfold wp kids
  dsimp only
  cases e : ρ[i]? with
  | none => rfl
  | some s => cases s <;> rfl
@[simp] theorem wp_share {i : Nat} {Q : Vl → Sts → Prop} : wp (share i) ρ Q = wSv ρ[i]? fun _ d => Q (0, d) (ρ.set i (.val 0 d)) := by
  unfold wp share
  cases e : ρ[i]? with
  | none => rfl
  | some s => cases s <;> rfl
@[simp] theorem wp_moveS {pr : List Nat} {i : Nat} {Q : Vl → Sts → Prop} : wp (moveS pr i) ρ Q = if prots pr i = true then False else wSv ρ[i]? fun k d => Q (k, d) (ρ.set i .dead) := by
  unfold wp moveS
  by_cases h : prots pr i = true
  · simp only [h, if_true]
  · simp only [h]
    cases e : ρ[i]? with
    | none => rfl
    | some s => cases s <;> rfl
@[simp] theorem wp_store {pr : List Nat} {i : Nat} {v : Vl} {Q : Unit → Sts → Prop} : wp (store pr i v) ρ Q = if prots pr i = true then False else wSt ρ[i]? (Q () (ρ.set i (.val v.1 v.2))) := by
  unfold wp store
  by_cases h : prots pr i = true
  · simp only [h, if_true]
  · simp only [h]
    cases e : ρ[i]? with
    | none => rfl
    | some s => cases s <;> rfl
@[simp] theorem wp_isKind {p : PyData → Bool} {o : Opd} {Q : Unit → Sts → Prop} : wp (isKind p o) ρ Q = wO (rsv o ρ) fun d => if p d = true then Q () ρ else False := by
  unfold wp PD.isKind
  cases e : rsv o ρ with
  | none => rfl
  | some d => by_cases h : p d = true <;> simp [h]
theorem wp_cCall {cl : Callee} {f : Str} {as : List Arg} {Q : Vl → Sts → Prop} {ss : List Slot} {ρ' : Sts} (h : toSlots ρ as = some (ss, ρ')) : wp (cCall cl f as) ρ Q = match cl f ss with
  | some (.ok v back) => Q v (backAll ρ' as back)
  | _ => False := by
  unfold wp cCall
  rw [h]
  dsimp only
  cases e : cl f ss with
  | none => rfl
  | some r => cases r <;> rfl
@[simp] theorem wp_cCall' {cl : Callee} {f : Str} {as : List Arg} {Q : Vl → Sts → Prop} : wp (cCall cl f as) ρ Q = wO (toSlots ρ as) fun p => wCr (cl f p.1) fun v back => Q v (backAll p.2 as back) := by
  unfold wp cCall
  cases h : toSlots ρ as with
  | none => rfl
  | some p =>
    obtain ⟨ss, ρ'⟩ := p
    show _ = wCr (cl f ss) _
    dsimp only
    cases e : cl f ss with
    | none => rfl
    | some r => cases r <;> rfl
@[simp] theorem wp_untups_nil {k : Nat} {Q : Unit → Sts → Prop} : wp (untups [] k []) ρ Q = Q () ρ := by
  unfold wp
  rfl
@[simp] theorem wp_untups_cons {f : Vl → M Unit} {fs : List (Vl → M Unit)} {k : Nat} {x : PyData} {xs : List PyData} {Q : Unit → Sts → Prop} : wp (untups (f :: fs) k (x :: xs)) ρ Q = wp (f (k, x)) ρ fun _ ρ' => wp (untups fs k xs) ρ' Q := by
  show wp (bnd (f (k, x)) fun _ => untups fs k xs) ρ Q = _
  rw [wp_bnd]
@[simp] theorem wp_untup {k : Nat} {xs : List PyData} {fs : List (Vl → M Unit)} {Q : Unit → Sts → Prop} : wp (untup (k, .tuple xs) fs) ρ Q = wp (untups fs (k - 1) xs) ρ Q := by
  unfold wp
  rfl
@[simp] theorem wp_stoM_nil {Q : Unit → Sts → Prop} : wp (stoM [] []) ρ Q = Q () ρ := by
  unfold wp
  rfl
@[simp] theorem wp_stoM_cons {f : Vl → M Unit} {fs : List (Vl → M Unit)} {v : Vl} {vs : List Vl} {Q : Unit → Sts → Prop} : wp (stoM (f :: fs) (v :: vs)) ρ Q = wp (f v) ρ fun _ ρ' => wp (stoM fs vs) ρ' Q := by
  show wp (bnd (f v) fun _ => stoM fs vs) ρ Q = _
  rw [wp_bnd]
@[simp] theorem wp_cNot {m : M Vl} {Q : Vl → Sts → Prop} : wp (cNot m) ρ Q = wp (tst m) ρ fun b ρ' => Q (0, .bool (!b)) ρ' := by unfold cNot; (repeat (first | rfl | simp only [wp_bnd, wp_ret] | refine wpx fun _ _ => ?_ | refine wOx fun _ => ?_))
@[simp] theorem wp_cNeg {m : M Vl} {Q : Vl → Sts → Prop} : wp (cNeg m) ρ Q = wp (asInt m) ρ fun i ρ' => Q (0, .int (-i)) ρ' := by unfold cNeg; (repeat (first | rfl | simp only [wp_bnd, wp_ret] | refine wpx fun _ _ => ?_ | refine wOx fun _ => ?_))
@[simp] theorem wp_cCmp {op : CmpOp} {a b : M Opd} {Q : Vl → Sts → Prop} : wp (cCmp op a b) ρ Q = wp a ρ fun x ρ1 => wp b ρ1 fun y ρ2 => wp (peek x) ρ2 fun dx ρ3 => wp (peek y) ρ3 fun dy ρ4 => wO (cmpOp op dx dy) fun t => Q (0, .bool t) ρ4 := by unfold cCmp; (repeat (first | rfl | simp only [wp_bnd, wp_ret, wp_lif] | refine wpx fun _ _ => ?_ | refine wOx fun _ => ?_))
@[simp] theorem wp_cAdd {a b : M Opd} {Q : Vl → Sts → Prop} : wp (cAdd a b) ρ Q = wp a ρ fun x ρ1 => wp b ρ1 fun y ρ2 => wp (kids x) ρ2 fun dx ρ3 => wp (kids y) ρ3 fun dy ρ4 => wO (addOp dx dy) fun v => Q v ρ4 := by unfold cAdd; (repeat (first | rfl | simp only [wp_bnd, wp_lif] | refine wpx fun _ _ => ?_ | refine wOx fun _ => ?_))
@[simp] theorem wp_cNum {op : Operator} {a b : M Opd} {Q : Vl → Sts → Prop} : wp (cNum op a b) ρ Q = wp a ρ fun x ρ1 => wp b ρ1 fun y ρ2 => wp (kids x) ρ2 fun dx ρ3 => wp (kids y) ρ3 fun dy ρ4 => wO (numAll op dx dy) fun v => Q v ρ4 := by unfold cNum; (repeat (first | rfl | simp only [wp_bnd, wp_lif] | refine wpx fun _ _ => ?_ | refine wOx fun _ => ?_))
@[simp] theorem wp_cList {m : M (List Vl)} {Q : Vl → Sts → Prop} : wp (cList m) ρ Q = wp m ρ fun vs ρ' => if vs.length ≤ sizeLine then Q (lev vs + 1, .list (vs.map (·.2))) ρ' else False := by unfold cList; (repeat (first | rfl | simp only [wp_bnd, wp_ite, wp_ret, wp_stuck] | refine wpx fun _ _ => ?_ | refine wOx fun _ => ?_))
@[simp] theorem wp_cTuple {m : M (List Vl)} {Q : Vl → Sts → Prop} : wp (cTuple m) ρ Q = wp m ρ fun vs ρ' => if vs.length ≤ sizeLine then Q (lev vs + 1, .tuple (vs.map (·.2))) ρ' else False := by unfold cTuple; (repeat (first | rfl | simp only [wp_bnd, wp_ite, wp_ret, wp_stuck] | refine wpx fun _ _ => ?_ | refine wOx fun _ => ?_))
@[simp] theorem wp_cItem {a b : M Opd} {Q : Vl → Sts → Prop} : wp (cItem a b) ρ Q = wp a ρ fun x ρ1 => wp b ρ1 fun y ρ2 => wp (peek y) ρ2 fun dy ρ3 => wp (itemV x dy) ρ3 Q := by unfold cItem; (repeat (first | rfl | simp only [wp_bnd] | refine wpx fun _ _ => ?_ | refine wOx fun _ => ?_))
@[simp] theorem wp_itemV_t {k : Nat} {d i : PyData} {Q : Vl → Sts → Prop} : wp (itemV (.t k d) i) ρ Q = wO (itemOf d i) fun v => Q (k - 1, v) ρ := by
  unfold wp itemV
  dsimp only
  cases itemOf d i <;> rfl
@[simp] theorem wp_itemV_s {j : Nat} {i : PyData} {Q : Vl → Sts → Prop} : wp (itemV (.s j) i) ρ Q = wKd ρ[j]? (fun k d => wO (itemOf d i) fun v => Q (0, v) (if decide (2 ≤ k) && !imm v then ρ.set j (.val 1 d) else ρ)) fun d => wO (itemOf d i) fun v => Q (0, v) ρ := by
  unfold wp itemV
  dsimp only
  cases e : ρ[j]? with
  | none => rfl
  | some s =>
    cases s with
    | dead => rfl
    | val k d => show _ = wO (itemOf d i) _; dsimp only; cases itemOf d i <;> rfl
    | ro d => show _ = wO (itemOf d i) _; dsimp only; cases itemOf d i <;> rfl
@[simp] theorem wp_cSlice {a : M Opd} {lo hi : M (Option Int)} {Q : Vl → Sts → Prop} : wp (cSlice a lo hi) ρ Q = wp a ρ fun x ρ1 => wp lo ρ1 fun l ρ2 => wp hi ρ2 fun h ρ3 => wp (kids x) ρ3 fun d ρ4 => wO (sliceOf d l h) fun v => Q v ρ4 := by unfold cSlice; (repeat (first | rfl | simp only [wp_bnd, wp_lif] | refine wpx fun _ _ => ?_ | refine wOx fun _ => ?_))
@[simp] theorem wp_cLook {f : Str} {a : M Opd} {Q : Vl → Sts → Prop} : wp (cLook f a) ρ Q = wp a ρ fun x ρ1 => wp (peek x) ρ1 fun d ρ2 => wO (bi1 f d) fun v => Q v ρ2 := by unfold cLook; (repeat (first | rfl | simp only [wp_bnd, wp_lif] | refine wpx fun _ _ => ?_ | refine wOx fun _ => ?_))
@[simp] theorem wp_cLook2 {f : Str} {a b : M Opd} {Q : Vl → Sts → Prop} : wp (cLook2 f a b) ρ Q = wp a ρ fun x ρ1 => wp b ρ1 fun y ρ2 => wp (peek x) ρ2 fun dx ρ3 => wp (peek y) ρ3 fun dy ρ4 => wO (bi2 f dx dy) fun v => Q v ρ4 := by unfold cLook2; (repeat (first | rfl | simp only [wp_bnd, wp_lif] | refine wpx fun _ _ => ?_ | refine wOx fun _ => ?_))
@[simp] theorem wp_cMake {f : Str} {a : M Opd} {Q : Vl → Sts → Prop} : wp (cMake f a) ρ Q = wp a ρ fun x ρ1 => wp (kids x) ρ1 fun d ρ2 => wO (bk1 f d) fun v => Q v ρ2 := by unfold cMake; (repeat (first | rfl | simp only [wp_bnd, wp_lif] | refine wpx fun _ _ => ?_ | refine wOx fun _ => ?_))
@[simp] theorem wp_cIsi {a : M Opd} {Ts : List Str} {Q : Vl → Sts → Prop} : wp (cIsi a Ts) ρ Q = wp a ρ fun x ρ1 => wp (peek x) ρ1 fun d ρ2 => wO (isTys Ts d) fun b => Q (0, .bool b) ρ2 := by unfold cIsi; (repeat (first | rfl | simp only [wp_bnd, wp_lif, wp_ret] | refine wpx fun _ _ => ?_ | refine wOx fun _ => ?_))
@[simp] theorem wp_cMeth1 {f : PyData → Option Vl} {a : M Opd} {Q : Vl → Sts → Prop} : wp (cMeth1 f a) ρ Q = wp a ρ fun x ρ1 => wp (peek x) ρ1 fun d ρ2 => wO (f d) fun v => Q v ρ2 := by unfold cMeth1; (repeat (first | rfl | simp only [wp_bnd, wp_lif] | refine wpx fun _ _ => ?_ | refine wOx fun _ => ?_))
@[simp] theorem wp_mAppend {i : Nat} {v : Vl} {Q : Vl → Sts → Prop} : wp (mAppend i v) ρ Q = wMs ρ[i]? (fun k xs => if xs.length < sizeLine then Q (0, .none) (ρ.set i (.val (setKid (k + 1) v) (.list (xs ++ [v.2])))) else False) fun _ _ => False := by
  unfold wp mAppend
  cases e : ρ[i]? with
  | none => rfl
  | some s => cases s with
    | dead => rfl
    | ro d => rfl
    | val k d => cases k with
      | zero => rfl
      | succ k => cases d with
        | list xs => rw [wMs_list]; dsimp only; by_cases h : xs.length < sizeLine <;> simp only [h, if_true, if_false]
        | _ => rfl
@[simp] theorem wp_mPop {i : Nat} {j : PyData} {Q : Vl → Sts → Prop} : wp (mPop i j) ρ Q = wMs ρ[i]? (fun k xs => wIn j fun j => if decide (-(2 ^ 62) ≤ j) && decide (j < 2 ^ 62) then (wO (ixD xs.length j) fun n => wO xs[n]? fun v => Q (k, v) (ρ.set i (.val (k + 1) (.list (xs.eraseIdx n))))) else False) fun _ _ => False := by
  unfold wp mPop
  cases e : ρ[i]? with
  | none => rfl
  | some s => cases s with
    | dead => rfl
    | ro d => rfl
    | val k d => cases k with
      | zero => rfl
      | succ k => cases d with
        | list xs =>
          rw [wMs_list]
          cases j with
          | int j =>
            rw [wIn_int]
            dsimp only
            by_cases h : (decide (-(2 ^ 62) ≤ j) && decide (j < 2 ^ 62)) = true
            · rw [if_pos h, if_pos h]
              cases ixD xs.length j with
              | none => rfl
              | some n => rw [wO_some]; dsimp only; cases xs[n]? <;> rfl
            · rw [if_neg h, if_neg h]
          | _ => rfl
        | _ => rfl
@[simp] theorem wp_mSet {i : Nat} {j : PyData} {v : Vl} {Q : Unit → Sts → Prop} : wp (mSet i j v) ρ Q = wMs ρ[i]? (fun k xs => wIn j fun j => wO (ixD xs.length j) fun n => Q () (ρ.set i (.val (setKid (k + 1) v) (.list (xs.set n v.2)))))
    fun k kvs => if keyOk kvs j && decide (kvs.length < sizeLine) then Q () (ρ.set i (.val (setKid (k + 1) v) (.dict (dput kvs j v.2)))) else False := by
  unfold wp mSet
  cases e : ρ[i]? with
  | none => rfl
  | some s => cases s with
    | dead => rfl
    | ro d => rfl
    | val k d => cases k with
      | zero => rfl
      | succ k => cases d with
        | list xs =>
          rw [wMs_list]
          cases j with
          | int j => rw [wIn_int]; dsimp only; cases ixD xs.length j <;> rfl
          | _ => rfl
        | dict kvs =>
          rw [wMs_dict]
          dsimp only
          by_cases h : (keyOk kvs j && decide (kvs.length < sizeLine)) = true
          · rw [if_pos h, if_pos h]
          · rw [if_neg h, if_neg h]
        | _ => rfl
@[simp] theorem wp_cAug {pr : List Nat} {i : Nat} {op : Operator} {m : M Vl} {Q : Unit → Sts → Prop} : wp (cAug pr i op m) ρ Q = wp (peek (.s i)) ρ fun a ρ1 => wp m ρ1 fun b ρ2 => wO (augOp op a b.2) fun v => wp (store pr i v) ρ2 Q := by unfold cAug; (repeat (first | rfl | simp only [wp_bnd, wp_lif] | refine wpx fun _ _ => ?_ | refine wOx fun _ => ?_))
@[simp] theorem wp_cAugS {i : Nat} {op : Operator} {k : M Opd} {m : M Vl} {Q : Unit → Sts → Prop} : wp (cAugS i op k m) ρ Q = wp k ρ fun j ρ1 => wp (peek j) ρ1 fun dj ρ2 => wp (peek (.s i)) ρ2 fun d ρ3 => wO (itemN d dj) fun n => wp m ρ3 fun b ρ4 => wO (augOp op (.int n) b.2) fun v => wp (peek j) ρ4 fun dj' ρ5 => wp (mSet i dj' v) ρ5 Q := by
  unfold cAugS
  (repeat (first | rfl | simp only [wp_bnd, wp_lif] | refine wpx fun _ _ => ?_ | refine wOx fun _ => ?_))
/-! ### loops -/
theorem wp_forM {tg : PyData → M Unit} {body : M Flw} {Q : Flw → Sts → Prop} : ∀ (xs : List PyData) (I : Nat → Sts → Prop) {ρ : Sts}, I 0 ρ → (∀ i x ρ, xs[i]? = some x → I i ρ → wp (tg x) ρ fun _ ρ1 => wp body ρ1 fun f ρ2 => match f with
    | .nx => I (i + 1) ρ2
    | .ct => I (i + 1) ρ2
    | .bk => Q .nx ρ2
    | .rt v => Q (.rt v) ρ2) → (∀ ρ, I xs.length ρ → Q .nx ρ) → wp (forM tg body xs) ρ Q
  | [], I, ρ, h0, _, he => by
    show wp (ret .nx) ρ Q
    rw [wp_ret]
    exact he ρ h0
  | x :: xs, I, ρ, h0, hs, he => by
    show wp (bnd (tg x) fun _ => bnd body fun f => match f with
      | .nx => forM tg body xs
      | .ct => forM tg body xs
      | .bk => ret .nx
      | .rt v => ret (.rt v)) ρ Q
    rw [wp_bnd]
    refine wp_mono (hs 0 x ρ rfl h0) fun _ ρ1 h1 => ?_
    rw [wp_bnd]
    refine wp_mono h1 fun f ρ2 h2 => ?_
    cases f with
    | nx => exact wp_forM xs (fun i => I (i + 1)) h2 (fun i x ρ hx => hs (i + 1) x ρ hx) he
    | ct => exact wp_forM xs (fun i => I (i + 1)) h2 (fun i x ρ hx => hs (i + 1) x ρ hx) he
    | bk => rw [wp_ret]; exact h2
    | rt v => rw [wp_ret]; exact h2
theorem wp_noX {lk : Bool} {m : M α} {Q : α → Sts → Prop} : wp (noX lk m) ρ Q = wp m ρ Q := by
  unfold wp noX
  cases e : m ρ with
  | none => rfl
  | some r =>
    cases r with
    | ok a ρ' => rfl
    | exc c d ρ' => cases lk <;> rfl
@[simp] theorem wp_cFor {w : M Walk} {tg : PyData → M Unit} {body : M Flw} {Q : Flw → Sts → Prop} : wp (cFor w tg body) ρ Q = wp w ρ fun W ρ1 => wp (forM tg body W.xs) ρ1 fun f ρ2 => wp (unwalk W) ρ2 fun _ ρ3 => Q f ρ3 := by
  unfold cFor
  (repeat (first | rfl | simp only [wp_bnd, wp_noX, wp_ret] | refine wpx fun _ _ => ?_ | refine wOx fun _ => ?_))
@[simp] theorem wp_unwalk_nil {xs : List PyData} {lk : Bool} {Q : Unit → Sts → Prop} : wp (unwalk ⟨xs, [], lk⟩) ρ Q = Q () ρ := by
  unfold wp
  rfl
@[simp] theorem wp_unw {m : M α} {xs : List PyData} {lk : Bool} {Q : α → Sts → Prop} : (wp m ρ fun a ρ2 => wp (unwalk ⟨xs, [], lk⟩) ρ2 fun _ ρ3 => Q a ρ3) = wp m ρ Q := wpx fun _ _ => wp_unwalk_nil
@[simp] theorem wp_unwalk_one {xs : List PyData} {lk : Bool} {i : Nat} {Q : Unit → Sts → Prop} : wp (unwalk ⟨xs, [i], lk⟩) ρ Q = wKd ρ[i]? (fun _ _ => False) fun d => Q () (ρ.set i (.val 1 d)) := by
  unfold wp unwalk
  simp only [unroS]
  cases e : ρ[i]? with
  | none => simp
  | some s => cases s <;> simp [unroS]
@[simp] theorem wp_froz_t {b : Bool} {k : Nat} {d : PyData} {Q : PyData × List Nat → Sts → Prop} : wp (froz b (.t k d)) ρ Q = Q (d, []) ρ := by
  unfold wp
  rfl
theorem wp_froz_s {b : Bool} {i : Nat} {Q : PyData × List Nat → Sts → Prop} : wp (froz b (.s i)) ρ Q = match ρ[i]? with
  | some (.val 0 d) => Q (d, []) ρ
  | some (.val (_ + 1) d) => if b = true then Q (d, [i]) (ρ.set i (.ro d)) else Q (d, []) (ρ.set i (.val 0 d))
  | some (.ro d) => Q (d, []) ρ
  | _ => False := by
  unfold wp froz
  cases e : ρ[i]? with
  | none => simp [e]
  | some s =>
    cases s with
    | dead => simp [e]
    | ro d => simp [e]
    | val k d => cases k <;> cases b <;> simp [e]
@[simp] theorem wp_froz_T {i : Nat} {Q : PyData × List Nat → Sts → Prop} : wp (froz true (.s i)) ρ Q = wKd ρ[i]? (fun k d => if k = 0 then Q (d, []) ρ else Q (d, [i]) (ρ.set i (.ro d))) fun d => Q (d, []) ρ := by
  rw [wp_froz_s]
  cases e : ρ[i]? with
  | none => rfl
  | some s => cases s with
    | val k d => cases k <;> rfl
    | _ => rfl
@[simp] theorem wp_walkO {b : Bool} {a : M Opd} {Q : Walk → Sts → Prop} : wp (walkO b a) ρ Q = wp a ρ fun x ρ1 => wp (froz b x) ρ1 fun d ρ2 => wO (itemsD d.1) fun xs => Q ⟨xs, d.2, isDictD d.1⟩ ρ2 := by
  unfold walkO
  (repeat (first | rfl | simp only [wp_bnd, wp_lif, wp_ret] | refine wpx fun _ _ => ?_ | refine wOx fun _ => ?_))
@[simp] theorem wp_walkR {lo hi : M Int} {Q : Walk → Sts → Prop} : wp (walkR lo hi) ρ Q = wp lo ρ fun i ρ1 => wp hi ρ1 fun j ρ2 => if rangeB i && rangeB j then Q ⟨rangeD i j, [], false⟩ ρ2 else False := by
  unfold walkR
  (repeat (first | rfl | simp only [wp_bnd, wp_ite, wp_ret, wp_stuck] | refine wpx fun _ _ => ?_ | refine wOx fun _ => ?_))
@[simp] theorem wp_walkZ {b c : Bool} {a a' : M Opd} {Q : Walk → Sts → Prop} : wp (walkZ b c a a') ρ Q = wp a ρ fun x ρ1 => wp a' ρ1 fun y ρ2 => wp (froz b x) ρ2 fun d ρ3 => wp (froz c y) ρ3 fun e ρ4 => wO (zipD d.1 e.1) fun xs => Q ⟨xs, d.2 ++ e.2, false⟩ ρ4 := by
  unfold walkZ
  (repeat (first | rfl | simp only [wp_bnd, wp_lif, wp_ret] | refine wpx fun _ _ => ?_ | refine wOx fun _ => ?_))
/-- while -/
theorem wp_while {c : M Bool} {b : M Flw} {Q : Flw → Sts → Prop} : ∀ (m n : Nat) (I : Nat → Sts → Prop) {ρ : Sts}, m < n → I m ρ → (∀ k ρ, I k ρ → wp c ρ fun t ρ1 => if t = true then (wp b ρ1 fun f ρ2 => match f with
    | .nx => ∃ j, j < k ∧ I j ρ2
    | .ct => ∃ j, j < k ∧ I j ρ2
    | .bk => Q .nx ρ2
    | .rt v => Q (.rt v) ρ2) else Q .nx ρ1) → wp (whileM c b n) ρ Q := by
  intro m
  induction m using Nat.strongRecOn with
  | ind m ih =>
    intro n I ρ hn h0 hs
    cases n with
    | zero => omega
    | succ n =>
      show wp (bnd c fun t => if t = true then bnd b fun f => match f with
        | .nx => whileM c b n
        | .ct => whileM c b n
        | .bk => ret .nx
        | .rt v => ret (.rt v)
        else ret .nx) ρ Q
      rw [wp_bnd]
      refine wp_mono (hs m ρ h0) fun t ρ1 h1 => ?_
      rw [wp_ite]
      cases t with
      | false => rw [if_neg Bool.false_ne_true] at h1 ⊢; rw [wp_ret]; exact h1
      | true =>
        rw [if_pos rfl] at h1 ⊢
        rw [wp_bnd]
        refine wp_mono h1 fun f ρ2 h2 => ?_
        cases f with
        | nx => obtain ⟨j, hj, hi⟩ := h2; exact ih j hj n I (by omega) hi hs
        | ct => obtain ⟨j, hj, hi⟩ := h2; exact ih j hj n I (by omega) hi hs
        | bk => rw [wp_ret]; exact h2
        | rt v => rw [wp_ret]; exact h2
/-! ### comprehensions -/
/-- the block leaves all as it is: what each item gives -/
theorem wp_compM {own : List Nat} {body : PyData → M (List β)} {Q : List β → Sts → Prop} (f : PyData → List β) (hk : killS ρ own = ρ) : ∀ (xs : List PyData), (∀ x, x ∈ xs → wp (body x) ρ fun v ρ' => v = f x ∧ killS ρ' own = ρ) → Q (xs.flatMap f) ρ → wp (compM own body xs) ρ Q
  | [], _, h => by
    show wp (ret []) ρ Q
    rw [wp_ret]
    exact h
  | x :: xs, hs, h => by
    obtain ⟨v, ρ1, e, rfl, h1⟩ := wp_def.mp (hs x (List.mem_cons_self ..))
    refine wp_def.mpr ?_
    have := wp_compM (Q := fun vs ρ' => Q (f x ++ vs) ρ') f hk xs (fun y hy => hs y (List.mem_cons_of_mem _ hy)) (by simpa using h)
    obtain ⟨vs, ρ2, e2, q⟩ := wp_def.mp this
    refine ⟨f x ++ vs, ρ2, ?_, q⟩
    show bnd (fun ρ => match body x ρ with
      | some (.ok v ρ') => some (.ok v (killS ρ' own))
      | _ => none) (fun v => bnd (compM own body xs) fun vs => ret (v ++ vs)) ρ = _
    unfold bnd
    simp only [e]
    rw [h1, e2]
    rfl
/-- with what changes -/
theorem wp_compI {own : List Nat} {body : PyData → M (List β)} {Q : List β → Sts → Prop} : ∀ (xs : List PyData) (I : Nat → List β → Sts → Prop) {ρ : Sts} {acc : List β}, I 0 acc ρ → (∀ i x acc ρ, xs[i]? = some x → I i acc ρ → wp (body x) ρ fun v ρ' => I (i + 1) (acc ++ v) (killS ρ' own)) → (∀ vs ρ, I xs.length (acc ++ vs) ρ → Q vs ρ) → wp (compM own body xs) ρ Q
  | [], I, ρ, acc, h0, _, he => by
    show wp (ret []) ρ Q
    rw [wp_ret]
    exact he [] ρ (by simpa using h0)
  | x :: xs, I, ρ, acc, h0, hs, he => by
    obtain ⟨v, ρ1, e, h1⟩ := wp_def.mp (hs 0 x acc ρ rfl h0)
    refine wp_def.mpr ?_
    have := wp_compI (Q := fun vs ρ' => Q (v ++ vs) ρ') xs (fun i => I (i + 1)) h1 (fun i x acc ρ hx => hs (i + 1) x acc ρ hx) fun vs ρ h => he (v ++ vs) ρ (by simpa using h)
    obtain ⟨vs, ρ2, e2, q⟩ := wp_def.mp this
    refine ⟨v ++ vs, ρ2, ?_, q⟩
    show bnd (fun ρ => match body x ρ with
      | some (.ok v ρ') => some (.ok v (killS ρ' own))
      | _ => none) (fun v => bnd (compM own body xs) fun vs => ret (v ++ vs)) ρ = _
    unfold bnd
    simp only [e]
    rw [e2]
    rfl
@[simp] theorem wp_inBlock {own : List Nat} {m : M α} {Q : α → Sts → Prop} : wp (inBlock own m) ρ Q = if plainS ρ own = true then wp m (killS ρ own) fun a ρ' => Q a (backS ρ ρ' own) else False := by
  unfold wp inBlock
  by_cases hp : plainS ρ own = true
  · rw [if_pos hp]
    simp only [hp, if_true]
    cases m (killS ρ own) with
    | none => rfl
    | some r => cases r <;> rfl
  · rw [if_neg hp]
    simp only [hp]
    rfl
@[simp] theorem wp_cLc {w : M Walk} {own : List Nat} {tg : PyData → M Unit} {c : M Bool} {elt : M Vl} {Q : Vl → Sts → Prop} : wp (cLc w own tg c elt) ρ Q = wp w ρ fun W ρ1 => wp (inBlock own (compM own (fun x => bnd (tg x) fun _ => bnd c fun b => if b = true then bnd elt fun v => ret [v] else ret []) W.xs)) ρ1 fun vs ρ2 =>
    wp (unwalk W) ρ2 fun _ ρ3 => if vs.length ≤ sizeLine then Q (lev vs + 1, .list (vs.map (·.2))) ρ3 else False := by
  unfold cLc
  (repeat (first | rfl | simp only [wp_bnd, wp_ite, wp_ret, wp_stuck] | refine wpx fun _ _ => ?_ | refine wOx fun _ => ?_))
@[simp] theorem wp_cDc {w : M Walk} {own : List Nat} {tg : PyData → M Unit} {c : M Bool} {ke ve : M Vl} {Q : Vl → Sts → Prop} : wp (cDc w own tg c ke ve) ρ Q = wp w ρ fun W ρ1 => wp (inBlock own (compM own (fun x => bnd (tg x) fun _ => bnd c fun b => if b = true then bnd ke fun k => bnd ve fun v => ret [(k.2, v)] else ret []) W.xs)) ρ1 fun ps ρ2 =>
    wp (unwalk W) ρ2 fun _ ρ3 => if decide (ps.length ≤ sizeLine) && (ps.all fun p => keyLeaf p.1) then Q (lev (ps.map (·.2)) + 1, .dict (mergeD [] (ps.map fun p => (p.1, p.2.2)))) ρ3 else False := by
  unfold cDc
  (repeat (first | rfl | simp only [wp_bnd, wp_ite, wp_ret, wp_stuck] | refine wpx fun _ _ => ?_ | refine wOx fun _ => ?_))
/-- what a def gives -/
theorem outF_ok {io : List Bool} {m : M Flw} {Q : Vl → List Slot → Prop} (h : wp m ρ fun f ρ' => match f with
    | .rt v => Q v (backOf io ρ')
    | .nx => Q (0, .none) (backOf io ρ')
    | _ => False) : ∃ v back, outF io (m ρ) = some (.ok v back) ∧ Q v back := by
  obtain ⟨f, ρ', e, q⟩ := wp_def.mp h
  rw [e]
  cases f with
  | rt v => exact ⟨v, _, rfl, q⟩
  | nx => exact ⟨_, _, rfl, q⟩
  | bk => exact q.elim
  | ct => exact q.elim
end PD
end
section
namespace K88
open PySem PySem.Spec PyProof.Rows L2 PD
def top (i : Nat) : Stmt := PySem.Challenge.pw_vendhall_k88_whole_partings_by_turns.main.body.getD i (.Pass ⟨0, 0, 0, 0⟩)
def dd (x : PySem.Str) (i : Nat) : He.DefD := ⟨(x, none), x, x, defArgs (top i), defBody (top i), defScope (top i), [], []⟩
def fn : List He.DefD := ([dd "is_whole" 9, dd "is_count" 10, dd "is_signs" 11, dd "is_name" 12, dd "check_owners" 14, dd "check_owners_sum" 15, dd "all_shares" 16, dd "rests_in" 17, dd "left_over" 18, dd "by_rests" 19, dd "next_by_turn" 20, dd "turns_in" 21, dd "parted_by_turns" 22, dd "dealt_row" 23, dd "falling_sums" 24, dd "_law_hash" 26, dd "_law_cell" 27, dd "_law_generator" 28, dd "_law_random" 29, dd "_law_pick" 30, dd "_law_drawn_order" 31, dd "_law_marked" 32, dd "_law_exact" 33, dd "_law_owners" 34, dd "_law_rests" 35, dd "_law_best" 36, dd "_law_owners_right" 37, dd "_law_rises_right" 38, dd "law" 39] : List He.DefD)
def rows : List (List PySem.Str × List Bool) := ([(["value"], [false]), (["value"], [false]), (["value", "signs", "sign"], [false, false]), (["value"], [false]), (["owners", "good", "name"], [false]), (["owners", "amount"], [false, false]), (["owners", "name"], [false]), (["owners", "amount", "whole", "told", "name", "rest"], [false, false]), (["owners", "amount", "whole", "name"], [false, false]), (["owners", "amount", "whole", "more", "name", "rest"], [false, false]), (["owners", "parting", "best", "name"], [false, true]), (["owners", "amount", "turn", "parting", "row", "name"], [false, false]), (["owners", "amount"], [false, false]), (["owners", "amount"], [false, false]), (["owners", "most", "amount", "found", "before", "now", "name"], [false, false]), (["seed", "index", "mixed"], [false, false]), (["script", "index"], [false, false]), (["script", "index", "seed"], [false, false]), (["generator", "bound", "drawn", "turn"], [true, false]), (["generator", "things"], [true, false]), (["generator", "things", "left", "found"], [true, false]), (["told", "kept", "item"], [true]), (["told", "due", "one", "other"], [true, true]), (["generator", "most", "found", "name"], [true, false]), (["owners", "amount", "whole", "found", "order", "left", "rest", "name"], [false, false]), (["owners", "parting", "names", "name", "other"], [false, true]), (["generator", "falls", "amount", "told", "owners", "most", "kept", "parting", "row", "before", "rests", "name", "dealt"], [true]), (["owners", "most", "amount", "less", "more", "name"], [false, false]), (["script", "index", "generator"], [false])] : List (List PySem.Str × List Bool))
def free : List PySem.Str := (["ValueError", "all", "bool", "dict", "int", "isinstance", "len", "list", "max", "range", "repr", "sorted", "str", "sum", "super", "tuple", "zip"] : List PySem.Str)
def txt : List (PySem.Str × PySem.Str) := ([("SMALL", "abcdefghijklmnopqrstuvwxyz"), ("FIGURES", "0123456789")] : List (PySem.Str × PySem.Str))
def num : List (PySem.Str × Int) := ([("MOST_NAME", 8)] : List (PySem.Str × Int))
def mvs : List Pos := ([⟨51, 11, 51, 15⟩, ⟨58, 12, 58, 19⟩, ⟨58, 21, 58, 24⟩, ⟨74, 11, 74, 16⟩, ⟨91, 15, 91, 20⟩, ⟨103, 11, 103, 16⟩, ⟨134, 11, 134, 16⟩, ⟨142, 11, 142, 16⟩, ⟨147, 19, 147, 23⟩] : List Pos)
def ros : List Pos := ([⟨108, 46, 108, 50⟩, ⟨112, 59, 112, 63⟩, ⟨116, 128, 116, 132⟩, ⟨116, 134, 116, 137⟩, ⟨118, 129, 118, 133⟩, ⟨118, 135, 118, 138⟩, ⟨132, 36, 132, 41⟩, ⟨139, 49, 139, 54⟩] : List Pos)
def T : RowT := ⟨fn, rows, free, txt, num, mvs, ros⟩
def P : Prog := T.prog
end K88
end
section
namespace K88
open PySem PD
/-- is_whole(value): slots 0 value -/
def z_is_whole (cl : PD.Callee) : M Flw :=
  (sq (rt (xAnd (cIsi (slotO 0) ["int"]) (cNot (cIsi (slotO 0) ["bool"]))))
  (ret .nx))
theorem e_is_whole (n : Nat) (s0 : Slot) : callF P (n + 1) "is_whole" [s0] = outF [false] (z_is_whole (callF P n) [s0]) := by kernel_rfl
/-- is_count(value): slots 0 value -/
def z_is_count (cl : PD.Callee) : M Flw :=
  (sq (rt (xAnd (bnd (argsM [aV (share 0)]) fun as => cCall cl "is_whole" as) (cCmp .GtE (slotO 0) (tmp (ret (0, (.int 0)))))))
  (ret .nx))
theorem e_is_count (n : Nat) (s0 : Slot) : callF P (n + 1) "is_count" [s0] = outF [false] (z_is_count (callF P n) [s0]) := by kernel_rfl
/-- is_signs(value, signs): slots 0 value, 1 signs, 2 sign -/
def z_is_signs (cl : PD.Callee) : M Flw :=
  (sq (rt (xAnd (cIsi (slotO 0) ["str"]) (cCmp .Eq (tmp (cLc (walkO false (slotO 0)) [2] (fun x => (store [] 2 (0, x))) (tst (cCmp .NotIn (slotO 2) (slotO 1))) (share 2))) (tmp (cList (evsM []))))))
  (ret .nx))
theorem e_is_signs (n : Nat) (s0 s1 : Slot) : callF P (n + 1) "is_signs" [s0, s1] = outF [false, false] (z_is_signs (callF P n) [s0, s1, .dead]) := by kernel_rfl
/-- is_name(value): slots 0 value -/
def z_is_name (cl : PD.Callee) : M Flw :=
  (sq (rt (xAnd (bnd (argsM [aV (share 0), aV (cAdd (tmp (ret (0, (.str "abcdefghijklmnopqrstuvwxyz")))) (tmp (ret (0, (.str "0123456789")))))]) fun as => cCall cl "is_signs" as) (xAnd (cChain .Lt .LtE (tmp (ret (0, (.int 0)))) (tmp (cLook "len" (slotO 0))) (tmp (ret (0, (.int 8))))) (cCmp .In (tmp (cItem (slotO 0) (tmp (ret (0, (.int 0)))))) (tmp (ret (0, (.str "abcdefghijklmnopqrstuvwxyz"))))))))
  (ret .nx))
theorem e_is_name (n : Nat) (s0 : Slot) : callF P (n + 1) "is_name" [s0] = outF [false] (z_is_name (callF P n) [s0]) := by kernel_rfl
/-- check_owners(owners): slots 0 owners, 1 good, 2 name -/
def z_check_owners (cl : PD.Callee) : M Flw :=
  (sq (nxt (bnd (xAnd (cIsi (slotO 0) ["dict"]) (cLook "all" (tmp (cLc (walkO false (slotO 0)) [2] (fun x => (store [] 2 (0, x))) (ret true) (xAnd (bnd (argsM [aV (share 2)]) fun as => cCall cl "is_name" as) (bnd (argsM [aV (cItem (slotO 0) (slotO 2))]) fun as => cCall cl "is_count" as)))))) fun v => (store [] 1 v)))
  (sq (cIf (tst (xOr (cNot (share 1)) (cLook "all" (tmp (cLc (walkO false (slotO 0)) [2] (fun x => (store [] 2 (0, x))) (ret true) (cCmp .Eq (tmp (cItem (slotO 0) (slotO 2))) (tmp (ret (0, (.int 0))))))))))
    (sq stuck
    (ret .nx))
    (ret .nx))
  (ret .nx)))
theorem e_check_owners (n : Nat) (s0 : Slot) : callF P (n + 1) "check_owners" [s0] = outF [false] (z_check_owners (callF P n) [s0, .dead, .dead]) := by kernel_rfl
/-- check_owners_sum(owners, amount): slots 0 owners, 1 amount -/
def z_check_owners_sum (cl : PD.Callee) : M Flw :=
  (sq (dp (bnd (argsM [aV (share 0)]) fun as => cCall cl "check_owners" as))
  (sq (cIf (tst (cNot (bnd (argsM [aV (share 1)]) fun as => cCall cl "is_count" as)))
    (sq stuck
    (ret .nx))
    (ret .nx))
  (ret .nx)))
theorem e_check_owners_sum (n : Nat) (s0 s1 : Slot) : callF P (n + 1) "check_owners_sum" [s0, s1] = outF [false, false] (z_check_owners_sum (callF P n) [s0, s1]) := by kernel_rfl
/-- all_shares(owners): slots 0 owners, 1 name -/
def z_all_shares (cl : PD.Callee) : M Flw :=
  (sq (rt (cLook "sum" (tmp (cLc (walkO false (slotO 0)) [1] (fun x => (store [] 1 (0, x))) (ret true) (cItem (slotO 0) (slotO 1))))))
  (ret .nx))
theorem e_all_shares (n : Nat) (s0 : Slot) : callF P (n + 1) "all_shares" [s0] = outF [false] (z_all_shares (callF P n) [s0, .dead]) := by kernel_rfl
/-- rests_in(owners, amount): slots 0 owners, 1 amount, 2 whole, 3 told, 4 name, 5 rest -/
def z_rests_in (cl : PD.Callee) : M Flw :=
  (sq (nxt (bnd (bnd (argsM [aV (share 0)]) fun as => cCall cl "all_shares" as) fun v => (store [] 2 v)))
  (sq (nxt (bnd (cLc (walkO false (slotO 0)) [4] (fun x => (store [] 4 (0, x))) (ret true) (cTuple (evsM [(cNum .Sub (tmp (ret (0, (.int 0)))) (tmp (cNum .Mod (tmp (cNum .Mult (slotO 1) (tmp (cItem (slotO 0) (slotO 4))))) (slotO 2)))), (share 4)]))) fun v => (store [] 3 v)))
  (sq (rt (cLc (walkO false (tmp (cMake "sorted" (slotO 3)))) [5, 4] (fun x => (untup (0, x) [fun v => (store [] 5 v), fun v => (store [] 4 v)])) (ret true) (cTuple (evsM [(share 4), (cNum .Sub (tmp (ret (0, (.int 0)))) (slotO 5))]))))
  (ret .nx))))
theorem e_rests_in (n : Nat) (s0 s1 : Slot) : callF P (n + 1) "rests_in" [s0, s1] = outF [false, false] (z_rests_in (callF P n) [s0, s1, .dead, .dead, .dead, .dead]) := by kernel_rfl
/-- left_over(owners, amount): slots 0 owners, 1 amount, 2 whole, 3 name -/
def z_left_over (cl : PD.Callee) : M Flw :=
  (sq (nxt (bnd (bnd (argsM [aV (share 0)]) fun as => cCall cl "all_shares" as) fun v => (store [] 2 v)))
  (sq (rt (cNum .Sub (slotO 1) (tmp (cLook "sum" (tmp (cLc (walkO false (slotO 0)) [3] (fun x => (store [] 3 (0, x))) (ret true) (cNum .FloorDiv (tmp (cNum .Mult (slotO 1) (tmp (cItem (slotO 0) (slotO 3))))) (slotO 2))))))))
  (ret .nx)))
theorem e_left_over (n : Nat) (s0 s1 : Slot) : callF P (n + 1) "left_over" [s0, s1] = outF [false, false] (z_left_over (callF P n) [s0, s1, .dead, .dead]) := by kernel_rfl
/-- by_rests(owners, amount): slots 0 owners, 1 amount, 2 whole, 3 more, 4 name, 5 rest -/
def z_by_rests (cl : PD.Callee) : M Flw :=
  (sq (nxt (bnd (cTuple (evsM [(bnd (argsM [aV (share 0)]) fun as => cCall cl "all_shares" as), (cSlice (tmp (cLc (walkO false (tmp (bnd (argsM [aV (share 0), aV (share 1)]) fun as => cCall cl "rests_in" as))) [4, 5] (fun x => (untup (0, x) [fun v => (store [] 4 v), fun v => (store [] 5 v)])) (ret true) (share 4))) (ret none) (oInt (bnd (argsM [aV (share 0), aV (share 1)]) fun as => cCall cl "left_over" as)))])) fun v => (untup v [fun v => (store [] 2 v), fun v => (store [] 3 v)])))
  (sq (rt (cDc (walkO false (slotO 0)) [4] (fun x => (store [] 4 (0, x))) (ret true) (share 4) (cAdd (tmp (cNum .FloorDiv (tmp (cNum .Mult (slotO 1) (tmp (cItem (slotO 0) (slotO 4))))) (slotO 2))) (tmp (cIf (tst (cCmp .In (slotO 4) (slotO 3))) (ret (0, (.int 1))) (ret (0, (.int 0))))))))
  (ret .nx)))
theorem e_by_rests (n : Nat) (s0 s1 : Slot) : callF P (n + 1) "by_rests" [s0, s1] = outF [false, false] (z_by_rests (callF P n) [s0, s1, .dead, .dead, .dead, .dead]) := by kernel_rfl
/-- next_by_turn(owners, parting): slots 0 owners, 1 parting, 2 best, 3 name -/
def z_next_by_turn (cl : PD.Callee) : M Flw :=
  (sq (nxt (bnd (ret (0, .none)) fun v => (store [1] 2 v)))
  (sq (cFor (walkO false (tmp (cMake "sorted" (slotO 0)))) (fun x => (store [1] 3 (0, x)))
    (sq (cIf (tst (xOr (cCmp .Is (slotO 2) (tmp (ret (0, .none)))) (cCmp .Gt (tmp (cNum .Mult (tmp (cItem (slotO 0) (slotO 3))) (tmp (cAdd (tmp (cNum .Mult (tmp (ret (0, (.int 2)))) (tmp (cItem (slotO 1) (slotO 2))))) (tmp (ret (0, (.int 1)))))))) (tmp (cNum .Mult (tmp (cItem (slotO 0) (slotO 2))) (tmp (cAdd (tmp (cNum .Mult (tmp (ret (0, (.int 2)))) (tmp (cItem (slotO 1) (slotO 3))))) (tmp (ret (0, (.int 1)))))))))))
      (sq (nxt (bnd (share 3) fun v => (store [1] 2 v)))
      (ret .nx))
      (ret .nx))
    (ret .nx)))
  (sq (rt (moveS [1] 2))
  (ret .nx))))
theorem e_next_by_turn (n : Nat) (s0 s1 : Slot) : callF P (n + 1) "next_by_turn" [s0, s1] = outF [false, true] (z_next_by_turn (callF P n) [s0, s1, .dead, .dead]) := by kernel_rfl
/-- turns_in(owners, amount): slots 0 owners, 1 amount, 2 turn, 3 parting, 4 row, 5 name -/
def z_turns_in (cl : PD.Callee) : M Flw :=
  (sq (nxt (bnd (evsM [(cDc (walkO false (slotO 0)) [5] (fun x => (store [] 5 (0, x))) (ret true) (share 5) (ret (0, (.int 0)))), (cList (evsM []))]) fun vs => stoM [fun v => (store [] 3 v), fun v => (store [] 4 v)] vs))
  (sq (cFor (walkR (ret 0) (asInt (share 1))) (fun x => (store [] 2 (0, x)))
    (sq (nxt (bnd (bnd (argsM [aV (share 0), aL 3]) fun as => cCall cl "next_by_turn" as) fun v => (store [] 5 v)))
    (sq (nxt (bnd (slotO 3) fun _ => cAugS 3 .Add (slotO 5) (ret (0, (.int 1)))))
    (sq (dp (bnd (isKind PyData.isList (.s 4)) fun _ => bnd (share 5) fun v => mAppend 4 v))
    (ret .nx)))))
  (sq (rt (cTuple (evsM [(moveS [] 3), (moveS [] 4)])))
  (ret .nx))))
theorem e_turns_in (n : Nat) (s0 s1 : Slot) : callF P (n + 1) "turns_in" [s0, s1] = outF [false, false] (z_turns_in (callF P n) [s0, s1, .dead, .dead, .dead, .dead]) := by kernel_rfl
/-- parted_by_turns(owners, amount): slots 0 owners, 1 amount -/
def z_parted_by_turns (cl : PD.Callee) : M Flw :=
  (sq (dp (bnd (argsM [aV (share 0), aV (share 1)]) fun as => cCall cl "check_owners_sum" as))
  (sq (rt (cItem (tmp (bnd (argsM [aV (share 0), aV (share 1)]) fun as => cCall cl "turns_in" as)) (tmp (ret (0, (.int 0))))))
  (ret .nx)))
theorem e_parted_by_turns (n : Nat) (s0 s1 : Slot) : callF P (n + 1) "parted_by_turns" [s0, s1] = outF [false, false] (z_parted_by_turns (callF P n) [s0, s1]) := by kernel_rfl
/-- dealt_row(owners, amount): slots 0 owners, 1 amount -/
def z_dealt_row (cl : PD.Callee) : M Flw :=
  (sq (dp (bnd (argsM [aV (share 0), aV (share 1)]) fun as => cCall cl "check_owners_sum" as))
  (sq (rt (cItem (tmp (bnd (argsM [aV (share 0), aV (share 1)]) fun as => cCall cl "turns_in" as)) (tmp (ret (0, (.int 1))))))
  (ret .nx)))
theorem e_dealt_row (n : Nat) (s0 s1 : Slot) : callF P (n + 1) "dealt_row" [s0, s1] = outF [false, false] (z_dealt_row (callF P n) [s0, s1]) := by kernel_rfl
/-- falling_sums(owners, most): slots 0 owners, 1 most, 2 amount, 3 found, 4 before, 5 now, 6 name -/
def z_falling_sums (cl : PD.Callee) : M Flw :=
  (sq (dp (bnd (argsM [aV (share 0)]) fun as => cCall cl "check_owners" as))
  (sq (cIf (tst (cNot (bnd (argsM [aV (share 1)]) fun as => cCall cl "is_count" as)))
    (sq stuck
    (ret .nx))
    (ret .nx))
  (sq (nxt (bnd (cTuple (evsM [(cList (evsM [])), (bnd (argsM [aV (share 0), aV (ret (0, (.int 0)))]) fun as => cCall cl "by_rests" as)])) fun v => (untup v [fun v => (store [] 3 v), fun v => (store [] 4 v)])))
  (sq (cFor (walkR (asInt (ret (0, (.int 1)))) (asInt (cAdd (slotO 1) (tmp (ret (0, (.int 1))))))) (fun x => (store [] 2 (0, x)))
    (sq (nxt (bnd (bnd (argsM [aV (share 0), aV (share 2)]) fun as => cCall cl "by_rests" as) fun v => (store [] 5 v)))
    (sq (nxt (bnd (cAdd (slotO 3) (tmp (cLc (walkO false (tmp (cMake "sorted" (slotO 0)))) [6] (fun x => (store [] 6 (0, x))) (tst (cCmp .Lt (tmp (cItem (slotO 5) (slotO 6))) (tmp (cItem (slotO 4) (slotO 6))))) (cTuple (evsM [(share 2), (share 6)]))))) fun v => (store [] 3 v)))
    (sq (nxt (bnd (share 5) fun v => (store [] 4 v)))
    (ret .nx)))))
  (sq (rt (moveS [] 3))
  (ret .nx))))))
theorem e_falling_sums (n : Nat) (s0 s1 : Slot) : callF P (n + 1) "falling_sums" [s0, s1] = outF [false, false] (z_falling_sums (callF P n) [s0, s1, .dead, .dead, .dead, .dead, .dead]) := by kernel_rfl
/-- _law_hash(seed, index): slots 0 seed, 1 index, 2 mixed -/
def z_law_hash (cl : PD.Callee) : M Flw :=
  (sq (nxt (bnd (cNum .Mod (tmp (cLook "int" (tmp (cAdd (tmp (cAdd (tmp (cAdd (tmp (cNum .Mult (slotO 0) (tmp (ret (0, (.int 1140671)))))) (tmp (cNum .Mult (tmp (cNum .Mult (tmp (ret (0, (.int 27644437)))) (slotO 1))) (slotO 1))))) (tmp (cNum .Mult (tmp (ret (0, (.int 131)))) (slotO 1))))) (tmp (ret (0, (.int 19)))))))) (tmp (ret (0, (.int 2147483629))))) fun v => (store [] 2 v)))
  (sq (nxt (bnd (cNum .Mod (tmp (cLook "int" (tmp (cAdd (tmp (cAdd (tmp (cNum .Mult (slotO 2) (slotO 2))) (tmp (cNum .Mult (tmp (ret (0, (.int 62089)))) (slotO 1))))) (tmp (ret (0, (.int 32416187)))))))) (tmp (ret (0, (.int 2147483587))))) fun v => (store [] 2 v)))
  (sq (rt (cNum .Mod (tmp (cLook "int" (tmp (cNum .Mult (slotO 2) (tmp (ret (0, (.int 48271)))))))) (tmp (ret (0, (.int 2147483647))))))
  (ret .nx))))
theorem e_law_hash (n : Nat) (s0 s1 : Slot) : callF P (n + 1) "_law_hash" [s0, s1] = outF [false, false] (z_law_hash (callF P n) [s0, s1, .dead]) := by kernel_rfl
/-- _law_cell(script, index): slots 0 script, 1 index -/
def z_law_cell (cl : PD.Callee) : M Flw :=
  (sq (cIf (tst (cCmp .Lt (slotO 1) (tmp (cLook "len" (slotO 0)))))
    (sq (rt (cItem (slotO 0) (slotO 1)))
    (ret .nx))
    (ret .nx))
  (sq (rt (cNum .Mod (tmp (cLook "sum" (tmp (cSlice (slotO 0) (ret none) (oInt (ret (0, (.int 1)))))))) (tmp (ret (0, (.int 1000003))))))
  (ret .nx)))
theorem e_law_cell (n : Nat) (s0 s1 : Slot) : callF P (n + 1) "_law_cell" [s0, s1] = outF [false, false] (z_law_cell (callF P n) [s0, s1]) := by kernel_rfl
/-- _law_generator(script, index): slots 0 script, 1 index, 2 seed -/
def z_law_generator (cl : PD.Callee) : M Flw :=
  (sq (nxt (bnd (bnd (argsM [aV (share 0), aV (share 1)]) fun as => cCall cl "_law_cell" as) fun v => (store [] 2 v)))
  (sq (rt (cList (evsM [(cNum .Mod (tmp (cLook "int" (tmp (cLook2 "max" (tmp (cNum .Sub (slotO 2) (tmp (cNum .Pow (tmp (ret (0, (.int 10)))) (tmp (ret (0, (.int 18)))))))) (tmp (ret (0, (.int 0)))))))) (tmp (cNum .Pow (tmp (cNum .Pow (tmp (ret (0, (.int 10)))) (tmp (ret (0, (.int 60)))))) (tmp (ret (0, (.int 10))))))), (cNum .Mod (tmp (cLook "int" (slotO 2))) (tmp (ret (0, (.int 2147483647))))), (cNum .Mult (tmp (ret (0, (.int 1000)))) (slotO 1))])))
  (ret .nx)))
theorem e_law_generator (n : Nat) (s0 s1 : Slot) : callF P (n + 1) "_law_generator" [s0, s1] = outF [false, false] (z_law_generator (callF P n) [s0, s1, .dead]) := by kernel_rfl
/-- _law_random(generator, bound): slots 0 generator, 1 bound, 2 drawn, 3 turn -/
def z_law_random (cl : PD.Callee) : M Flw :=
  (sq (cIf (tst (cCmp .Gt (tmp (cItem (slotO 0) (tmp (ret (0, (.int 0)))))) (tmp (ret (0, (.int 0))))))
    (sq (nxt (bnd (cNum .Mod (tmp (cLook "int" (tmp (cItem (slotO 0) (tmp (ret (0, (.int 0)))))))) (slotO 1)) fun v => (store [0] 2 v)))
    (sq (nxt (bnd (cNum .FloorDiv (tmp (cItem (slotO 0) (tmp (ret (0, (.int 0)))))) (slotO 1)) fun v => bnd (slotO 0) fun _ => bnd (tmp (ret (0, (.int 0)))) fun o => bnd (peek o) fun di => mSet 0 di v))
    (sq (rt (moveS [0] 2))
    (ret .nx))))
    (ret .nx))
  (sq (nxt (bnd (ret (0, (.int 0))) fun v => (store [0] 2 v)))
  (sq (cFor (walkR (ret 0) (asInt (cAdd (tmp (ret (0, (.int 1)))) (tmp (cNum .FloorDiv (tmp (cMeth1 bitLen (slotO 1))) (tmp (ret (0, (.int 30))))))))) (fun x => (store [0] 3 (0, x)))
    (sq (nxt (bnd (cAdd (tmp (cItem (slotO 0) (tmp (ret (0, (.int 2)))))) (tmp (ret (0, (.int 1))))) fun v => bnd (slotO 0) fun _ => bnd (tmp (ret (0, (.int 2)))) fun o => bnd (peek o) fun di => mSet 0 di v))
    (sq (nxt (bnd (cAdd (tmp (cNum .Mult (slotO 2) (tmp (ret (0, (.int 2147483587)))))) (tmp (bnd (argsM [aV (cItem (slotO 0) (tmp (ret (0, (.int 1))))), aV (cItem (slotO 0) (tmp (ret (0, (.int 2)))))]) fun as => cCall cl "_law_hash" as))) fun v => (store [0] 2 v)))
    (ret .nx))))
  (sq (rt (cNum .Mod (tmp (cLook "int" (slotO 2))) (slotO 1)))
  (ret .nx)))))
theorem e_law_random (n : Nat) (s0 s1 : Slot) : callF P (n + 1) "_law_random" [s0, s1] = outF [true, false] (z_law_random (callF P n) [s0, s1, .dead, .dead]) := by kernel_rfl
/-- _law_pick(generator, things): slots 0 generator, 1 things -/
def z_law_pick (cl : PD.Callee) : M Flw :=
  (sq (rt (cItem (slotO 1) (tmp (bnd (argsM [aL 0, aV (cLook "len" (slotO 1))]) fun as => cCall cl "_law_random" as))))
  (ret .nx))
theorem e_law_pick (n : Nat) (s0 s1 : Slot) : callF P (n + 1) "_law_pick" [s0, s1] = outF [true, false] (z_law_pick (callF P n) [s0, s1]) := by kernel_rfl
/-- _law_drawn_order(generator, things): slots 0 generator, 1 things, 2 left, 3 found -/
def z_law_drawn_order (cl : PD.Callee) : M Flw :=
  (sq (nxt (bnd (evsM [(cMake "list" (slotO 1)), (cList (evsM []))]) fun vs => stoM [fun v => (store [0] 2 v), fun v => (store [0] 3 v)] vs))
  (sq (whileM (tst (cCmp .NotEq (slotO 2) (tmp (cList (evsM []))))) (sq (dp (bnd (isKind PyData.isList (.s 3)) fun _ => bnd (bnd (isKind PyData.isList (.s 2)) fun _ => bnd (bnd (argsM [aL 0, aV (cLook "len" (slotO 2))]) fun as => cCall cl "_law_random" as) fun v => mPop 2 v.2) fun v => mAppend 3 v))
    (ret .nx)) wTurns)
  (sq (rt (moveS [0] 3))
  (ret .nx))))
theorem e_law_drawn_order (n : Nat) (s0 s1 : Slot) : callF P (n + 1) "_law_drawn_order" [s0, s1] = outF [true, false] (z_law_drawn_order (callF P n) [s0, s1, .dead, .dead]) := by kernel_rfl
/-- _law_marked(told): slots 0 told, 1 kept, 2 item -/
def z_law_marked (cl : PD.Callee) : M Flw :=
  (sq (cIf (tst (cIsi (slotO 0) ["list"]))
    (sq (cIf (tst (xAnd (cCmp .NotEq (slotO 0) (tmp (cList (evsM [])))) (cCmp .Eq (tmp (cItem (slotO 0) (tmp (cNeg (ret (0, (.int 1))))))) (tmp (ret (0, (.str "marked")))))))
      (sq (rt (ret (0, (.bool false))))
      (ret .nx))
      (ret .nx))
    (sq (nxt (bnd (cLc (walkO true (slotO 0)) [2] (fun x => (store [] 2 (0, x))) (ret true) (bnd (argsM [aL 2]) fun as => cCall cl "_law_marked" as)) fun v => (store [0] 1 v)))
    (sq (dp (bnd (isKind PyData.isList (.s 0)) fun _ => bnd (ret (0, (.str "marked"))) fun v => mAppend 0 v))
    (sq (rt (cCmp .NotIn (tmp (ret (0, (.bool false)))) (slotO 1)))
    (ret .nx)))))
    (ret .nx))
  (sq (cIf (tst (cIsi (slotO 0) ["tuple"]))
    (sq (rt (cCmp .NotIn (tmp (ret (0, (.bool false)))) (tmp (cLc (walkO true (slotO 0)) [2] (fun x => (store [] 2 (0, x))) (ret true) (bnd (argsM [aL 2]) fun as => cCall cl "_law_marked" as)))))
    (ret .nx))
    (ret .nx))
  (sq (rt (xOr (cCmp .Is (slotO 0) (tmp (ret (0, .none)))) (cIsi (slotO 0) ["int", "str"])))
  (ret .nx))))
theorem e_law_marked (n : Nat) (s0 : Slot) : callF P (n + 1) "_law_marked" [s0] = outF [true] (z_law_marked (callF P n) [s0, .dead, .dead]) := by kernel_rfl
/-- _law_exact(told, due): slots 0 told, 1 due, 2 one, 3 other -/
def z_law_exact (cl : PD.Callee) : M Flw :=
  (sq (cIf (tst (cIsi (slotO 1) ["list"]))
    (sq (rt (xAnd (cIsi (slotO 0) ["list"]) (xAnd (cCmp .Eq (tmp (cLook "len" (slotO 0))) (tmp (cLook "len" (slotO 1)))) (cCmp .NotIn (tmp (ret (0, (.bool false)))) (tmp (cLc (walkZ true true (slotO 0) (slotO 1)) [2, 3] (fun x => (untup (0, x) [fun v => (store [] 2 v), fun v => (store [] 3 v)])) (ret true) (bnd (argsM [aL 2, aL 3]) fun as => cCall cl "_law_exact" as)))))))
    (ret .nx))
    (ret .nx))
  (sq (cIf (tst (cIsi (slotO 1) ["tuple"]))
    (sq (rt (xAnd (cIsi (slotO 0) ["tuple"]) (xAnd (cCmp .Eq (tmp (cLook "len" (slotO 0))) (tmp (cLook "len" (slotO 1)))) (cCmp .NotIn (tmp (ret (0, (.bool false)))) (tmp (cLc (walkZ true true (slotO 0) (slotO 1)) [2, 3] (fun x => (untup (0, x) [fun v => (store [] 2 v), fun v => (store [] 3 v)])) (ret true) (bnd (argsM [aL 2, aL 3]) fun as => cCall cl "_law_exact" as)))))))
    (ret .nx))
    (ret .nx))
  (sq (cIf (tst (cCmp .Is (slotO 1) (tmp (ret (0, .none)))))
    (sq (rt (cCmp .Is (slotO 0) (tmp (ret (0, .none)))))
    (ret .nx))
    (ret .nx))
  (sq (cIf (tst (cCmp .Is (slotO 1) (tmp (ret (0, (.bool true))))))
    (sq (rt (cCmp .Is (slotO 0) (tmp (ret (0, (.bool true))))))
    (ret .nx))
    (ret .nx))
  (sq (cIf (tst (cCmp .Is (slotO 1) (tmp (ret (0, (.bool false))))))
    (sq (rt (cCmp .Is (slotO 0) (tmp (ret (0, (.bool false))))))
    (ret .nx))
    (ret .nx))
  (sq (cIf (tst (cIsi (slotO 1) ["int"]))
    (sq (rt (xAnd (cIsi (slotO 0) ["int"]) (xAnd (cNot (cIsi (slotO 0) ["bool"])) (cCmp .Eq (slotO 0) (slotO 1)))))
    (ret .nx))
    (ret .nx))
  (sq (rt (xAnd (cIsi (slotO 0) ["str"]) (cCmp .Eq (slotO 0) (slotO 1))))
  (ret .nx))))))))
theorem e_law_exact (n : Nat) (s0 s1 : Slot) : callF P (n + 1) "_law_exact" [s0, s1] = outF [true, true] (z_law_exact (callF P n) [s0, s1, .dead, .dead]) := by kernel_rfl
/-- _law_owners(generator, most): slots 0 generator, 1 most, 2 found, 3 name -/
def z_law_owners (cl : PD.Callee) : M Flw :=
  (sq (nxt (bnd (ret (1, .dict [])) fun v => (store [0] 2 v)))
  (sq (cFor (walkO false (tmp (cSlice (tmp (bnd (argsM [aL 0, aV (cList (evsM [(ret (0, (.str "ann"))), (ret (0, (.str "b10"))), (ret (0, (.str "b2"))), (ret (0, (.str "cy"))), (ret (0, (.str "di")))]))]) fun as => cCall cl "_law_drawn_order" as)) (ret none) (oInt (cAdd (tmp (ret (0, (.int 1)))) (tmp (bnd (argsM [aL 0, aV (share 1)]) fun as => cCall cl "_law_random" as))))))) (fun x => (store [0] 3 (0, x)))
    (sq (nxt (bnd (bnd (argsM [aL 0, aV (cList (evsM [(bnd (argsM [aL 0, aV (ret (0, (.int 4)))]) fun as => cCall cl "_law_random" as), (cAdd (tmp (ret (0, (.int 1)))) (tmp (bnd (argsM [aL 0, aV (ret (0, (.int 9)))]) fun as => cCall cl "_law_random" as))), (bnd (argsM [aL 0, aV (ret (0, (.int 2)))]) fun as => cCall cl "_law_random" as)]))]) fun as => cCall cl "_law_pick" as) fun v => bnd (slotO 2) fun _ => bnd (slotO 3) fun o => bnd (peek o) fun di => mSet 2 di v))
    (ret .nx)))
  (sq (cIf (tst (cCmp .Eq (tmp (cLook "sum" (tmp (cLc (walkO true (slotO 2)) [3] (fun x => (store [] 3 (0, x))) (ret true) (cItem (slotO 2) (slotO 3)))))) (tmp (ret (0, (.int 0))))))
    (sq (nxt (bnd (cAdd (tmp (ret (0, (.int 1)))) (tmp (bnd (argsM [aL 0, aV (ret (0, (.int 5)))]) fun as => cCall cl "_law_random" as))) fun v => bnd (slotO 2) fun _ => bnd (tmp (cItem (tmp (cMake "sorted" (slotO 2))) (tmp (cNeg (ret (0, (.int 1))))))) fun o => bnd (peek o) fun di => mSet 2 di v))
    (ret .nx))
    (ret .nx))
  (sq (rt (moveS [0] 2))
  (ret .nx)))))
theorem e_law_owners (n : Nat) (s0 s1 : Slot) : callF P (n + 1) "_law_owners" [s0, s1] = outF [true, false] (z_law_owners (callF P n) [s0, s1, .dead, .dead]) := by kernel_rfl
/-- _law_rests(owners, amount): slots 0 owners, 1 amount, 2 whole, 3 found, 4 order, 5 left, 6 rest, 7 name -/
def z_law_rests (cl : PD.Callee) : M Flw :=
  (sq (nxt (bnd (cLook "sum" (tmp (cLc (walkO false (slotO 0)) [7] (fun x => (store [] 7 (0, x))) (ret true) (cItem (slotO 0) (slotO 7))))) fun v => (store [] 2 v)))
  (sq (nxt (bnd (cMake "dict" (tmp (cLc (walkO false (slotO 0)) [7] (fun x => (store [] 7 (0, x))) (ret true) (cTuple (evsM [(share 7), (cNum .FloorDiv (tmp (cNum .Mult (slotO 1) (tmp (cItem (slotO 0) (slotO 7))))) (slotO 2))]))))) fun v => (store [] 3 v)))
  (sq (nxt (bnd (cMake "sorted" (tmp (cLc (walkO false (slotO 0)) [7] (fun x => (store [] 7 (0, x))) (ret true) (cTuple (evsM [(cNum .Sub (tmp (ret (0, (.int 0)))) (tmp (cNum .Mod (tmp (cNum .Mult (slotO 1) (tmp (cItem (slotO 0) (slotO 7))))) (slotO 2)))), (share 7)]))))) fun v => (store [] 4 v)))
  (sq (nxt (bnd (cNum .Sub (slotO 1) (tmp (cLook "sum" (tmp (cLc (walkO true (slotO 3)) [7] (fun x => (store [] 7 (0, x))) (ret true) (cItem (slotO 3) (slotO 7))))))) fun v => (store [] 5 v)))
  (sq (cFor (walkO false (tmp (cSlice (slotO 4) (ret none) (oInt (share 5))))) (fun x => (untup (0, x) [fun v => (store [] 6 v), fun v => (store [] 7 v)]))
    (sq (nxt (bnd (cAdd (tmp (cItem (slotO 3) (slotO 7))) (tmp (ret (0, (.int 1))))) fun v => bnd (slotO 3) fun _ => bnd (slotO 7) fun o => bnd (peek o) fun di => mSet 3 di v))
    (ret .nx)))
  (sq (rt (moveS [] 3))
  (ret .nx)))))))
theorem e_law_rests (n : Nat) (s0 s1 : Slot) : callF P (n + 1) "_law_rests" [s0, s1] = outF [false, false] (z_law_rests (callF P n) [s0, s1, .dead, .dead, .dead, .dead, .dead, .dead]) := by kernel_rfl
/-- _law_best(owners, parting): slots 0 owners, 1 parting, 2 names, 3 name, 4 other -/
def z_law_best (cl : PD.Callee) : M Flw :=
  (sq (nxt (bnd (cMake "sorted" (slotO 0)) fun v => (store [1] 2 v)))
  (sq (cFor (walkO false (slotO 2)) (fun x => (store [1] 3 (0, x)))
    (sq (cIf (tst (cCmp .Eq (tmp (cLc (walkO false (slotO 2)) [4] (fun x => (store [] 4 (0, x))) (tst (cCmp .Gt (tmp (cNum .Mult (tmp (cItem (slotO 0) (slotO 4))) (tmp (cAdd (tmp (cNum .Mult (tmp (ret (0, (.int 2)))) (tmp (cItem (slotO 1) (slotO 3))))) (tmp (ret (0, (.int 1)))))))) (tmp (cNum .Mult (tmp (cItem (slotO 0) (slotO 3))) (tmp (cAdd (tmp (cNum .Mult (tmp (ret (0, (.int 2)))) (tmp (cItem (slotO 1) (slotO 4))))) (tmp (ret (0, (.int 1)))))))))) (share 4))) (tmp (cList (evsM [])))))
      (sq (rt (moveS [1] 3))
      (ret .nx))
      (ret .nx))
    (ret .nx)))
  (sq (rt (cItem (slotO 2) (tmp (ret (0, (.int 0))))))
  (ret .nx))))
theorem e_law_best (n : Nat) (s0 s1 : Slot) : callF P (n + 1) "_law_best" [s0, s1] = outF [false, true] (z_law_best (callF P n) [s0, s1, .dead, .dead, .dead]) := by kernel_rfl
/-- _law_owners_right(generator): slots 0 generator, 1 falls, 2 amount, 3 told, 4 owners, 5 most, 6 kept, 7 parting, 8 row, 9 before, 10 rests, 11 name, 12 dealt -/
def z_law_owners_right (cl : PD.Callee) : M Flw :=
  (sq (nxt (bnd (evsM [(bnd (argsM [aL 0, aV (ret (0, (.int 5)))]) fun as => cCall cl "_law_owners" as), (cAdd (tmp (ret (0, (.int 10)))) (tmp (bnd (argsM [aL 0, aV (ret (0, (.int 30)))]) fun as => cCall cl "_law_random" as)))]) fun vs => stoM [fun v => (store [0] 4 v), fun v => (store [0] 5 v)] vs))
  (sq (nxt (bnd (cTuple (evsM [(cLook "repr" (slotO 4)), (cMake "dict" (tmp (cLc (walkO false (slotO 4)) [11] (fun x => (store [] 11 (0, x))) (ret true) (cTuple (evsM [(share 11), (ret (0, (.int 0)))]))))), (cList (evsM [])), (ret (0, .none))])) fun v => (untup v [fun v => (store [0] 6 v), fun v => (store [0] 7 v), fun v => (store [0] 8 v), fun v => (store [0] 9 v)])))
  (sq (nxt (bnd (cList (evsM [])) fun v => (store [0] 1 v)))
  (sq (cFor (walkR (ret 0) (asInt (cAdd (slotO 5) (tmp (ret (0, (.int 1))))))) (fun x => (store [0] 2 (0, x)))
    (sq (cIf (tst (cCmp .Gt (slotO 2) (tmp (ret (0, (.int 0))))))
      (sq (nxt (bnd (bnd (argsM [aV (share 4), aL 7]) fun as => cCall cl "_law_best" as) fun v => (store [0] 11 v)))
      (sq (nxt (bnd (cAdd (tmp (cItem (slotO 7) (slotO 11))) (tmp (ret (0, (.int 1))))) fun v => bnd (slotO 7) fun _ => bnd (slotO 11) fun o => bnd (peek o) fun di => mSet 7 di v))
      (sq (dp (bnd (isKind PyData.isList (.s 8)) fun _ => bnd (share 11) fun v => mAppend 8 v))
      (ret .nx))))
      (ret .nx))
    (sq (nxt (bnd (bnd (argsM [aV (share 4), aV (share 2)]) fun as => cCall cl "_law_rests" as) fun v => (store [0] 10 v)))
    (sq (cIf (tst (cCmp .Gt (slotO 2) (tmp (ret (0, (.int 0))))))
      (sq (nxt (bnd (cAdd (slotO 1) (tmp (cLc (walkO false (tmp (cMake "sorted" (slotO 4)))) [11] (fun x => (store [] 11 (0, x))) (tst (cCmp .Lt (tmp (cItem (slotO 10) (slotO 11))) (tmp (cItem (slotO 9) (slotO 11))))) (cTuple (evsM [(share 2), (share 11)]))))) fun v => (store [0] 1 v)))
      (ret .nx))
      (ret .nx))
    (sq (nxt (bnd (share 10) fun v => (store [0] 9 v)))
    (sq (cIf (tst (cCmp .In (slotO 2) (tmp (cList (evsM [(ret (0, (.int 0))), (ret (0, (.int 1))), (cNum .FloorDiv (slotO 5) (tmp (ret (0, (.int 2))))), (share 5)])))))
      (sq (nxt (bnd (evsM [(bnd (argsM [aV (share 4), aV (share 2)]) fun as => cCall cl "parted_by_turns" as), (bnd (argsM [aV (share 4), aV (share 2)]) fun as => cCall cl "dealt_row" as)]) fun vs => stoM [fun v => (store [0] 3 v), fun v => (store [0] 12 v)] vs))
      (sq (cIf (tst (xOr (cNot (cIsi (slotO 3) ["dict"])) (xOr (cCmp .NotEq (slotO 3) (slotO 7)) (xOr (cNot (bnd (argsM [aL 12, aL 8]) fun as => cCall cl "_law_exact" as)) (cNot (bnd (argsM [aL 12]) fun as => cCall cl "_law_marked" as))))))
        (sq (rt (ret (0, (.bool false))))
        (ret .nx))
        (ret .nx))
      (sq (cIf (tst (xOr (cCmp .NotEq (tmp (bnd (argsM [aV (share 2), aV (share 4)]) fun bs => callI cl "parted_by_turns" [1, 0] bs)) (slotO 7)) (cCmp .NotEq (tmp (bnd (argsM [aV (share 2), aV (share 4)]) fun bs => callI cl "dealt_row" [1, 0] bs)) (slotO 8))))
        (sq (rt (ret (0, (.bool false))))
        (ret .nx))
        (ret .nx))
      (ret .nx))))
      (ret .nx))
    (ret .nx)))))))
  (sq (nxt (bnd (bnd (argsM [aV (share 4), aV (share 5)]) fun as => cCall cl "falling_sums" as) fun v => (store [0] 3 v)))
  (sq (cIf (tst (xOr (cNot (bnd (argsM [aL 3, aL 1]) fun as => cCall cl "_law_exact" as)) (xOr (cNot (bnd (argsM [aL 3]) fun as => cCall cl "_law_marked" as)) (cNot (bnd (argsM [aV (bnd (argsM [aV (share 5), aV (share 4)]) fun bs => callI cl "falling_sums" [1, 0] bs), aL 1]) fun as => cCall cl "_law_exact" as)))))
    (sq (rt (ret (0, (.bool false))))
    (ret .nx))
    (ret .nx))
  (sq (rt (xAnd (bnd (argsM [aV (share 4), aV (share 5)]) fun as => cCall cl "_law_rises_right" as) (cCmp .Eq (tmp (cLook "repr" (slotO 4))) (slotO 6))))
  (ret .nx))))))))
theorem e_law_owners_right (n : Nat) (s0 : Slot) : callF P (n + 1) "_law_owners_right" [s0] = outF [true] (z_law_owners_right (callF P n) [s0, .dead, .dead, .dead, .dead, .dead, .dead, .dead, .dead, .dead, .dead, .dead, .dead]) := by kernel_rfl
/-- _law_rises_right(owners, most): slots 0 owners, 1 most, 2 amount, 3 less, 4 more, 5 name -/
def z_law_rises_right (cl : PD.Callee) : M Flw :=
  (sq (cFor (walkO false (tmp (cList (evsM [(ret (0, (.int 1))), (cNum .FloorDiv (slotO 1) (tmp (ret (0, (.int 2))))), (share 1)])))) (fun x => (store [] 2 (0, x)))
    (sq (nxt (bnd (cTuple (evsM [(bnd (argsM [aV (share 0), aV (cNum .Sub (slotO 2) (tmp (ret (0, (.int 1)))))]) fun as => cCall cl "parted_by_turns" as), (bnd (argsM [aV (share 0), aV (share 2)]) fun as => cCall cl "parted_by_turns" as)])) fun v => (untup v [fun v => (store [] 3 v), fun v => (store [] 4 v)])))
    (sq (cIf (tst (xOr (cCmp .NotEq (tmp (cLc (walkO false (slotO 0)) [5] (fun x => (store [] 5 (0, x))) (tst (cCmp .Lt (tmp (cItem (slotO 4) (slotO 5))) (tmp (cItem (slotO 3) (slotO 5))))) (share 5))) (tmp (cList (evsM [])))) (cCmp .NotEq (tmp (cLook "sum" (tmp (cLc (walkO false (slotO 4)) [5] (fun x => (store [] 5 (0, x))) (ret true) (cItem (slotO 4) (slotO 5)))))) (slotO 2))))
      (sq (rt (ret (0, (.bool false))))
      (ret .nx))
      (ret .nx))
    (ret .nx))))
  (sq (rt (ret (0, (.bool true))))
  (ret .nx)))
theorem e_law_rises_right (n : Nat) (s0 s1 : Slot) : callF P (n + 1) "_law_rises_right" [s0, s1] = outF [false, false] (z_law_rises_right (callF P n) [s0, s1, .dead, .dead, .dead, .dead]) := by kernel_rfl
/-- law(script): slots 0 script, 1 index, 2 generator -/
def z_law (cl : PD.Callee) : M Flw :=
  (sq (cFor (walkR (ret 0) (asInt (ret (0, (.int 3))))) (fun x => (store [] 1 (0, x)))
    (sq (nxt (bnd (bnd (argsM [aV (share 0), aV (share 1)]) fun as => cCall cl "_law_generator" as) fun v => (store [] 2 v)))
    (sq (cIf (tst (xOr (cNot (bnd (argsM [aL 2]) fun as => cCall cl "_law_owners_right" as)) (cNot (bnd (argsM [aL 2]) fun as => cCall cl "_law_owners_right" as))))
      (sq (rt (ret (0, (.bool false))))
      (ret .nx))
      (ret .nx))
    (ret .nx))))
  (sq (rt (bnd (argsM [aV (cList (evsM [(bnd (argsM [aV (cDict (prs [((ret (0, (.str "a"))), (ret (0, (.int 6)))), ((ret (0, (.str "b"))), (ret (0, (.int 6)))), ((ret (0, (.str "c"))), (ret (0, (.int 2))))])), aV (ret (0, (.int 11)))]) fun as => cCall cl "falling_sums" as), (bnd (argsM [aV (cDict (prs [((ret (0, (.str "a"))), (ret (0, (.int 1))))])), aV (ret (0, (.int 60)))]) fun as => cCall cl "falling_sums" as), (bnd (argsM [aV (cDict (prs [((ret (0, (.str "b"))), (ret (0, (.int 1)))), ((ret (0, (.str "a"))), (ret (0, (.int 1))))])), aV (ret (0, (.int 3)))]) fun as => cCall cl "dealt_row" as)])), aV (cList (evsM [(cList (evsM [(cTuple (evsM [(ret (0, (.int 4))), (ret (0, (.str "c")))])), (cTuple (evsM [(ret (0, (.int 11))), (ret (0, (.str "c")))]))])), (cList (evsM [])), (cList (evsM [(ret (0, (.str "a"))), (ret (0, (.str "b"))), (ret (0, (.str "a")))]))]))]) fun as => cCall cl "_law_exact" as))
  (ret .nx)))
theorem e_law (n : Nat) (s0 : Slot) : callF P (n + 1) "law" [s0] = outF [false] (z_law (callF P n) [s0, .dead, .dead]) := by kernel_rfl
end K88
end
section
/-! PL: tables with texts as keys, lists that are made; what is wanted for a law's plain part. -/
namespace PD
open PySem
variable {α β : Type}
def rdO (o : Option Slot) : Option PyData := match o with
  | some (.val _ d) => some d
  | some (.ro d) => some d
  | _ => none
@[simp] theorem rdO_val {k : Nat} {d : PyData} : rdO (some (.val k d)) = some d := rfl
@[simp] theorem rdO_ro {d : PyData} : rdO (some (.ro d)) = some d := rfl
@[simp] theorem rdS_val {ρ : Sts} {i : Nat} : rdS ρ i = rdO ρ[i]? := rfl
@[simp] theorem rsv_t {k : Nat} {d : PyData} {ρ : Sts} : rsv (.t k d) ρ = some d := rfl
@[simp] theorem rsv_s {i : Nat} {ρ : Sts} : rsv (.s i) ρ = rdS ρ i := rfl
@[simp] theorem toSlots_nil {ρ : Sts} : toSlots ρ [] = some ([], ρ) := rfl
@[simp] theorem toSlots_v {ρ : Sts} {x : Vl} {r : List Arg} : toSlots ρ (.v x :: r) = match toSlots ρ r with
  | some (l, ρ') => some (.val x.1 x.2 :: l, ρ')
  | none => none := rfl
@[simp] theorem toSlots_l {ρ : Sts} {i : Nat} {r : List Arg} : toSlots ρ (.lend i :: r) = match ρ[i]? with
  | some (.val k d) => (match toSlots (ρ.set i .dead) r with
    | some (l, ρ') => some (.val k d :: l, ρ')
    | none => none)
  | _ => none := rfl
@[simp] theorem backAll_v {ρ : Sts} {x : Vl} {r : List Arg} {b : Slot} {bs : List Slot} : backAll ρ (.v x :: r) (b :: bs) = backAll ρ r bs := rfl
@[simp] theorem backAll_l {ρ : Sts} {i : Nat} {r : List Arg} {b : Slot} {bs : List Slot} : backAll ρ (.lend i :: r) (b :: bs) = backAll (ρ.set i b) r bs := rfl
@[simp] theorem backAll_nil {ρ : Sts} {bs : List Slot} : backAll ρ [] bs = ρ := by unfold backAll; rfl
@[simp] theorem backOf_t {io : List Bool} {s : Slot} {ρ : Sts} : backOf (true :: io) (s :: ρ) = s :: backOf io ρ := rfl
@[simp] theorem backOf_f {io : List Bool} {s : Slot} {ρ : Sts} : backOf (false :: io) (s :: ρ) = .dead :: backOf io ρ := rfl
@[simp] theorem backOf_nil {ρ : Sts} : backOf [] ρ = [] := by unfold backOf; rfl
@[simp] theorem kill_nil {ρ : Sts} : killS ρ [] = ρ := rfl
@[simp] theorem kill_cons {ρ : Sts} {i : Nat} {r : List Nat} : killS ρ (i :: r) = (killS ρ r).set i .dead := rfl
@[simp] theorem back_nil {ρ0 ρ : Sts} : backS ρ0 ρ [] = ρ := rfl
@[simp] theorem back_cons {ρ0 ρ : Sts} {i : Nat} {r : List Nat} : backS ρ0 ρ (i :: r) = match ρ0[i]? with
  | some s => (backS ρ0 ρ r).set i s
  | none => backS ρ0 ρ r := rfl
@[simp] theorem plain_nil {ρ : Sts} : plainS ρ [] = true := rfl
@[simp] theorem plain_cons {ρ : Sts} {i : Nat} {r : List Nat} : plainS ρ (i :: r) = ((match ρ[i]? with
  | some .dead => true
  | some (.val 0 _) => true
  | some (.val _ d) => imm d
  | _ => false) && plainS ρ r) := rfl
@[simp] theorem prots_nil {i : Nat} : prots [] i = false := rfl
@[simp] theorem imm_int {i : Int} : imm (.int i) = true := rfl
@[simp] theorem imm_str {i : Str} : imm (.str i) = true := rfl
@[simp] theorem imm_bool {i : Bool} : imm (.bool i) = true := rfl
@[simp] theorem imm_none : imm .none = true := rfl
@[simp] theorem imm_list {l : List PyData} : imm (.list l) = false := rfl
@[simp] theorem imm_dict {l : List (PyData × PyData)} : imm (.dict l) = false := rfl
theorem outF_eq {io : List Bool} {m : M Flw} {ρ : Sts} {v : Vl} {back : List Slot} (h : wp m ρ fun f ρ' => f = .rt v ∧ backOf io ρ' = back) : outF io (m ρ) = some (.ok v back) := by
  obtain ⟨f, ρ', e, rfl, rfl⟩ := wp_def.mp h
  rw [e]
  rfl
theorem outF_nx {io : List Bool} {m : M Flw} {ρ : Sts} {back : List Slot} (h : wp m ρ fun f ρ' => f = .nx ∧ backOf io ρ' = back) : outF io (m ρ) = some (.ok (0, .none) back) := by
  obtain ⟨f, ρ', e, rfl, rfl⟩ := wp_def.mp h
  rw [e]
  rfl
theorem outF_ex {io : List Bool} {m : M Flw} {ρ : Sts} {Q : Vl → List Slot → Prop} (h : wp m ρ fun f ρ' => ∃ v, f = .rt v ∧ Q v (backOf io ρ')) : ∃ v back, outF io (m ρ) = some (.ok v back) ∧ Q v back := by
  obtain ⟨f, ρ', e, v, rfl, q⟩ := wp_def.mp h
  exact ⟨v, _, by rw [e]; rfl, q⟩
theorem froz_f {ρ : Sts} {i : Nat} : froz false (.s i) ρ = match ρ[i]? with
  | some (.val _ d) => some (.ok (d, []) (ρ.set i (.val 0 d)))
  | some (.ro d) => some (.ok (d, []) ρ)
  | _ => none := by
  unfold froz
  dsimp only
  cases e : ρ[i]? with
  | none => rfl
  | some s => cases s with
    | dead => rfl
    | ro d => rfl
    | val k d =>
      cases k with
      | zero =>
        have : ρ.set i (.val 0 d) = ρ := by
          apply List.ext_getElem?
          intro j
          rw [List.getElem?_set]
          split
          · rename_i h; subst h; split
            · exact e.symm
            · rw [List.getElem?_eq_none (by omega)] at e; cases e
          · rfl
        dsimp only
        rw [this]
      | succ k => rfl
@[simp] theorem wp_froz_f {ρ : Sts} {i : Nat} {Q : PyData × List Nat → Sts → Prop} : wp (froz false (.s i)) ρ Q = wKd ρ[i]? (fun _ d => Q (d, []) (ρ.set i (.val 0 d))) fun d => Q (d, []) ρ := by
  unfold wp
  rw [froz_f]
  cases e : ρ[i]? with
  | none => rfl
  | some s => cases s <;> rfl
theorem small_ok {n : Nat} (h : n ≤ 1000000) : n ≤ sizeLine := Nat.le_trans h (by decide)
theorem small_lt {n : Nat} (h : n < 1000000) : n < sizeLine := Nat.lt_of_lt_of_le h (by decide)
/-! levels -/
theorem minLev_imm : ∀ {vs : List Vl}, (∀ v ∈ vs, imm v.2 = true) → minLev vs = none
  | [], _ => rfl
  | v :: vs, h => by
    unfold minLev
    rw [if_pos (h v (List.mem_cons_self ..))]
    exact minLev_imm fun w hw => h w (List.mem_cons_of_mem _ hw)
theorem lev_imm {vs : List Vl} (h : ∀ v ∈ vs, imm v.2 = true) : lev vs = 0 := by
  unfold lev
  rw [minLev_imm h]
  rfl
/-! tables: texts to numbers -/
abbrev Tab := List (Str × Int)
def kv (o : Tab) : List (PyData × PyData) := o.map fun p => (.str p.1, .int p.2)
def put (o : Tab) (x : Str) (v : Int) : Tab := match o with
  | [] => [(x, v)]
  | (y, u) :: r => if y = x then (y, v) :: r else (y, u) :: put r x v
def tget (o : Tab) (x : Str) : Int := match o with
  | [] => 0
  | (y, u) :: r => if y = x then u else tget r x
def tkeys (o : Tab) : List Str := o.map (·.1)
theorem allLeaf_kv (o : Tab) : allLeaf (kv o) = true := by
  unfold allLeaf kv
  rw [List.all_map]
  exact List.all_eq_true.mpr fun _ _ => rfl
theorem keyOk_kv (o : Tab) (x : Str) : keyOk (kv o) (.str x) = true := by
  unfold keyOk
  rw [allLeaf_kv]
  rfl
theorem keyOk_int (x : Str) : ∀ o : Tab, keyOk (kv o) (.str x) = true := fun o => keyOk_kv o x
theorem dget_kv {x : Str} : ∀ {o : Tab}, x ∈ tkeys o → dget (kv o) (.str x) = some (.int (tget o x))
  | [], h => by cases h
  | (y, u) :: r, h => by
    show (if keyEq (.str y) (.str x) = true then _ else dget (kv r) (.str x)) = _
    unfold tget
    by_cases e : y = x
    · rw [if_pos (by subst e; exact decide_eq_true rfl), if_pos e]
    · rw [if_neg (by intro z; exact e (of_decide_eq_true z)), if_neg e]
      refine dget_kv ?_
      rcases List.mem_cons.mp h with h | h
      · exact absurd h.symm e
      · exact h
theorem dget_kv_none {x : Str} : ∀ {o : Tab}, x ∉ tkeys o → dget (kv o) (.str x) = none
  | [], h => rfl
  | (y, u) :: r, h => by
    show (if keyEq (.str y) (.str x) = true then _ else dget (kv r) (.str x)) = _
    have e : ¬ y = x := fun e => h (e ▸ List.mem_cons_self ..)
    rw [if_neg (by intro z; exact e (of_decide_eq_true z))]
    exact dget_kv_none fun z => h (List.mem_cons_of_mem _ z)
theorem dput_kv (x : Str) (v : Int) : ∀ o : Tab, dput (kv o) (.str x) (.int v) = kv (put o x v)
  | [] => rfl
  | (y, u) :: r => by
    show (if keyEq (.str y) (.str x) = true then _ else _ :: dput (kv r) (.str x) (.int v)) = _
    unfold put
    by_cases e : y = x
    · rw [if_pos (by subst e; exact decide_eq_true rfl), if_pos e]
      rfl
    · rw [if_neg (by intro z; exact e (of_decide_eq_true z)), if_neg e, dput_kv x v r]
      rfl
theorem put_keys {x : Str} {v : Int} : ∀ {o : Tab}, x ∈ tkeys o → tkeys (put o x v) = tkeys o
  | [], h => by cases h
  | (y, u) :: r, h => by
    unfold put
    by_cases e : y = x
    · rw [if_pos e]; rfl
    · rw [if_neg e]
      show y :: tkeys (put r x v) = y :: tkeys r
      rw [put_keys]
      rcases List.mem_cons.mp h with h | h
      · exact absurd h.symm e
      · exact h
theorem tget_put {x y : Str} {v : Int} : ∀ {o : Tab}, tget (put o x v) y = if x = y then v else tget o y
  | [] => by unfold put tget; rfl
  | (z, u) :: r => by
    unfold put
    by_cases e : z = x
    · rw [if_pos e]
      subst e
      unfold tget
      by_cases e2 : z = y
      · rw [if_pos e2, if_pos e2]
      · rw [if_neg e2, if_neg e2, if_neg e2]
    · rw [if_neg e]
      unfold tget
      by_cases e2 : z = y
      · rw [if_pos e2, if_pos e2, if_neg (by intro z; exact e (e2.trans z.symm))]
      · rw [if_neg e2, if_neg e2, tget_put]
/-- a table is its keys and what stands there -/
theorem kv_of (o : Tab) : ∀ (nd : (tkeys o).Nodup), o = (tkeys o).map fun x => (x, tget o x) := by
  induction o with
  | nil => intro _; rfl
  | cons p r ih =>
    intro nd
    obtain ⟨y, u⟩ := p
    have nd' := List.nodup_cons.mp nd
    show (y, u) :: r = (y, tget ((y, u) :: r) y) :: (tkeys r).map fun x => (x, tget ((y, u) :: r) x)
    have e1 : tget ((y, u) :: r) y = u := by unfold tget; rw [if_pos rfl]
    have e2 : (tkeys r).map (fun x => (x, tget ((y, u) :: r) x)) = (tkeys r).map fun x => (x, tget r x) := List.map_congr_left fun x hx => by
      have : ¬ y = x := fun e => nd'.1 (e ▸ hx)
      show (x, tget ((y, u) :: r) x) = _
      rw [show tget ((y, u) :: r) x = tget r x from by show (if y = x then u else tget r x) = _; rw [if_neg this]]
    rw [e1, e2, ← ih nd'.2]
/-! ### built-ins -/
theorem bi1_sum (xs : List PyData) : bi1 "sum" (.list xs) = match allInts xs with
  | some ns => some (0, .int ns.sum)
  | none => none := by kernel_rfl
theorem bi1_all (xs : List PyData) : bi1 "all" (.list xs) = match allBools xs with
  | some ns => some (0, .bool (ns.all id))
  | none => none := by kernel_rfl
theorem bi1_len_list (xs : List PyData) : bi1 "len" (.list xs) = some (0, .int xs.length) := by kernel_rfl
theorem bi1_len_dict (xs : List (PyData × PyData)) : bi1 "len" (.dict xs) = some (0, .int xs.length) := by kernel_rfl
theorem bi1_int (i : Int) : bi1 "int" (.int i) = some (0, .int i) := by kernel_rfl
theorem bk1_sorted_list (xs : List PyData) : bk1 "sorted" (.list xs) = if sortOk xs then some (1, .list (sortD xs)) else none := by kernel_rfl
theorem bk1_sorted_dict (kvs : List (PyData × PyData)) : bk1 "sorted" (.dict kvs) = if sortOk (kvs.map (·.1)) && allLeaf kvs then some (1, .list (sortD (kvs.map (·.1)))) else none := by kernel_rfl
theorem bk1_list_list (xs : List PyData) : bk1 "list" (.list xs) = some (1, .list xs) := by kernel_rfl
theorem bk1_dict_list (xs : List PyData) : bk1 "dict" (.list xs) = match allPairs xs with
  | some kvs => if allLeaf kvs then some (1, .dict (mergeD [] kvs)) else none
  | none => none := by kernel_rfl
theorem allInts_map (l : List Int) : allInts (l.map PyData.int) = some l := by
  induction l with
  | nil => rfl
  | cons x l ih => show (match allInts (l.map PyData.int) with
    | some bs => some (x :: bs)
    | none => none) = _; rw [ih]
theorem allBools_map (l : List Bool) : allBools (l.map PyData.bool) = some l := by
  induction l with
  | nil => rfl
  | cons x l ih => show (match allBools (l.map PyData.bool) with
    | some bs => some (x :: bs)
    | none => none) = _; rw [ih]
theorem allPairs_map (l : List (PyData × PyData)) : allPairs (l.map fun p => .tuple [p.1, p.2]) = some l := by
  induction l with
  | nil => rfl
  | cons x l ih => show (match allPairs (l.map fun p => .tuple [p.1, p.2]) with
    | some bs => some ((x.1, x.2) :: bs)
    | none => none) = _; rw [ih]
theorem items_kv (o : Tab) : itemsD (.dict (kv o)) = some ((tkeys o).map PyData.str) := by
  show (if allLeaf (kv o) then some ((kv o).map (·.1)) else none) = _
  rw [if_pos (allLeaf_kv o)]
  unfold kv tkeys
  rw [List.map_map, List.map_map]
  rfl
theorem item_kv {o : Tab} {x : Str} (h : x ∈ tkeys o) : itemOf (.dict (kv o)) (.str x) = some (.int (tget o x)) := by
  show (if keyOk (kv o) (.str x) then dget (kv o) (.str x) else none) = _
  rw [if_pos (keyOk_kv o x), dget_kv h]
theorem items_list (xs : List PyData) : itemsD (.list xs) = some xs := rfl
/-! ### a comprehension that leaves all as it is: one name -/
theorem flatMap_one {γ δ : Type} (g : γ → δ) : ∀ l : List γ, (l.flatMap fun x => [g x]) = l.map g
  | [] => rfl
  | x :: l => by rw [List.flatMap_cons, flatMap_one g l]; rfl
/-- items from a list of texts: what each gives -/
theorem wp_compT {γ : Type} {own : List Nat} {body : PyData → M (List β)} {Q : List β → Sts → Prop} {ρ : Sts} (c : γ → PyData) (f : γ → List β) (hk : killS ρ own = ρ) : ∀ (xs : List γ), (∀ x, x ∈ xs → wp (body (c x)) ρ fun v ρ' => v = f x ∧ killS ρ' own = ρ) → Q (xs.flatMap f) ρ → wp (compM own body (xs.map c)) ρ Q
  | [], _, h => by
    show wp (ret []) ρ Q
    rw [wp_ret]
    exact h
  | x :: xs, hs, h => by
    obtain ⟨v, ρ1, e, rfl, h1⟩ := wp_def.mp (hs x (List.mem_cons_self ..))
    refine wp_def.mpr ?_
    have := wp_compT (Q := fun vs ρ' => Q (f x ++ vs) ρ') c f hk xs (fun y hy => hs y (List.mem_cons_of_mem _ hy)) (by simpa using h)
    obtain ⟨vs, ρ2, e2, q⟩ := wp_def.mp this
    refine ⟨f x ++ vs, ρ2, ?_, q⟩
    show bnd (fun ρ => match body (c x) ρ with
      | some (.ok v ρ') => some (.ok v (killS ρ' own))
      | _ => none) (fun v => bnd (compM own body (xs.map c)) fun vs => ret (v ++ vs)) ρ = _
    unfold bnd
    simp only [e]
    rw [h1, e2]
    rfl
@[simp] theorem flatMap_one' {γ δ : Type} (g : γ → δ) (l : List γ) : (l.flatMap fun x => [g x]) = l.map g := flatMap_one g l
@[simp] theorem tkeys_len (o : Tab) : (tkeys o).length = o.length := by unfold tkeys; rw [List.length_map]
@[simp] theorem tb_len (o : Tab) : (kv o).length = o.length := by unfold kv; rw [List.length_map]
theorem allInts_map' {γ : Type} (g : γ → Int) (l : List γ) : allInts (l.map fun x => PyData.int (g x)) = some (l.map g) := by
  rw [← allInts_map (l.map g), List.map_map]
  rfl
theorem allBools_map' {γ : Type} (g : γ → Bool) (l : List γ) : allBools (l.map fun x => PyData.bool (g x)) = some (l.map g) := by
  rw [← allBools_map (l.map g), List.map_map]
  rfl
theorem lev_map {γ : Type} (g : γ → PyData) (l : List γ) (h : ∀ x ∈ l, imm (g x) = true) : lev (l.map fun x => ((0 : Nat), g x)) = 0 := lev_imm fun v hv => by
  obtain ⟨x, hx, rfl⟩ := List.mem_map.mp hv
  exact h x hx
theorem lev_map1 {γ : Type} (k : Nat) (g : γ → PyData) (l : List γ) (h : ∀ x ∈ l, imm (g x) = true) : lev (l.map fun x => (k, g x)) = 0 := lev_imm fun v hv => by
  obtain ⟨x, hx, rfl⟩ := List.mem_map.mp hv
  exact h x hx
@[simp] theorem ty_int_int {i : Int} : isTys ["int"] (.int i) = some true := by kernel_rfl
@[simp] theorem ty_int_bool {b : Bool} : isTys ["int"] (.bool b) = some true := by kernel_rfl
@[simp] theorem ty_int_str {s : Str} : isTys ["int"] (.str s) = some false := by kernel_rfl
@[simp] theorem ty_int_list {l : List PyData} : isTys ["int"] (.list l) = some false := by kernel_rfl
@[simp] theorem ty_int_tuple {t : List PyData} : isTys ["int"] (.tuple t) = some false := by kernel_rfl
@[simp] theorem ty_int_dict {kvs : List (PyData × PyData)} : isTys ["int"] (.dict kvs) = some false := by kernel_rfl
@[simp] theorem ty_int_none : isTys ["int"] (.none) = some false := by kernel_rfl
@[simp] theorem ty_bool_int {i : Int} : isTys ["bool"] (.int i) = some false := by kernel_rfl
@[simp] theorem ty_bool_bool {b : Bool} : isTys ["bool"] (.bool b) = some true := by kernel_rfl
@[simp] theorem ty_bool_str {s : Str} : isTys ["bool"] (.str s) = some false := by kernel_rfl
@[simp] theorem ty_bool_list {l : List PyData} : isTys ["bool"] (.list l) = some false := by kernel_rfl
@[simp] theorem ty_bool_tuple {t : List PyData} : isTys ["bool"] (.tuple t) = some false := by kernel_rfl
@[simp] theorem ty_bool_dict {kvs : List (PyData × PyData)} : isTys ["bool"] (.dict kvs) = some false := by kernel_rfl
@[simp] theorem ty_bool_none : isTys ["bool"] (.none) = some false := by kernel_rfl
@[simp] theorem ty_str_int {i : Int} : isTys ["str"] (.int i) = some false := by kernel_rfl
@[simp] theorem ty_str_bool {b : Bool} : isTys ["str"] (.bool b) = some false := by kernel_rfl
@[simp] theorem ty_str_str {s : Str} : isTys ["str"] (.str s) = some true := by kernel_rfl
@[simp] theorem ty_str_list {l : List PyData} : isTys ["str"] (.list l) = some false := by kernel_rfl
@[simp] theorem ty_str_tuple {t : List PyData} : isTys ["str"] (.tuple t) = some false := by kernel_rfl
@[simp] theorem ty_str_dict {kvs : List (PyData × PyData)} : isTys ["str"] (.dict kvs) = some false := by kernel_rfl
@[simp] theorem ty_str_none : isTys ["str"] (.none) = some false := by kernel_rfl
@[simp] theorem ty_list_int {i : Int} : isTys ["list"] (.int i) = some false := by kernel_rfl
@[simp] theorem ty_list_bool {b : Bool} : isTys ["list"] (.bool b) = some false := by kernel_rfl
@[simp] theorem ty_list_str {s : Str} : isTys ["list"] (.str s) = some false := by kernel_rfl
@[simp] theorem ty_list_list {l : List PyData} : isTys ["list"] (.list l) = some true := by kernel_rfl
@[simp] theorem ty_list_tuple {t : List PyData} : isTys ["list"] (.tuple t) = some false := by kernel_rfl
@[simp] theorem ty_list_dict {kvs : List (PyData × PyData)} : isTys ["list"] (.dict kvs) = some false := by kernel_rfl
@[simp] theorem ty_list_none : isTys ["list"] (.none) = some false := by kernel_rfl
@[simp] theorem ty_tuple_int {i : Int} : isTys ["tuple"] (.int i) = some false := by kernel_rfl
@[simp] theorem ty_tuple_bool {b : Bool} : isTys ["tuple"] (.bool b) = some false := by kernel_rfl
@[simp] theorem ty_tuple_str {s : Str} : isTys ["tuple"] (.str s) = some false := by kernel_rfl
@[simp] theorem ty_tuple_list {l : List PyData} : isTys ["tuple"] (.list l) = some false := by kernel_rfl
@[simp] theorem ty_tuple_tuple {t : List PyData} : isTys ["tuple"] (.tuple t) = some true := by kernel_rfl
@[simp] theorem ty_tuple_dict {kvs : List (PyData × PyData)} : isTys ["tuple"] (.dict kvs) = some false := by kernel_rfl
@[simp] theorem ty_tuple_none : isTys ["tuple"] (.none) = some false := by kernel_rfl
@[simp] theorem ty_dict_int {i : Int} : isTys ["dict"] (.int i) = some false := by kernel_rfl
@[simp] theorem ty_dict_bool {b : Bool} : isTys ["dict"] (.bool b) = some false := by kernel_rfl
@[simp] theorem ty_dict_str {s : Str} : isTys ["dict"] (.str s) = some false := by kernel_rfl
@[simp] theorem ty_dict_list {l : List PyData} : isTys ["dict"] (.list l) = some false := by kernel_rfl
@[simp] theorem ty_dict_tuple {t : List PyData} : isTys ["dict"] (.tuple t) = some false := by kernel_rfl
@[simp] theorem ty_dict_dict {kvs : List (PyData × PyData)} : isTys ["dict"] (.dict kvs) = some true := by kernel_rfl
@[simp] theorem ty_dict_none : isTys ["dict"] (.none) = some false := by kernel_rfl
@[simp] theorem ty_intstr_int {i : Int} : isTys ["int", "str"] (.int i) = some true := by kernel_rfl
@[simp] theorem ty_intstr_bool {b : Bool} : isTys ["int", "str"] (.bool b) = some true := by kernel_rfl
@[simp] theorem ty_intstr_str {s : Str} : isTys ["int", "str"] (.str s) = some true := by kernel_rfl
@[simp] theorem ty_intstr_list {l : List PyData} : isTys ["int", "str"] (.list l) = some false := by kernel_rfl
@[simp] theorem ty_intstr_tuple {t : List PyData} : isTys ["int", "str"] (.tuple t) = some false := by kernel_rfl
@[simp] theorem ty_intstr_dict {kvs : List (PyData × PyData)} : isTys ["int", "str"] (.dict kvs) = some false := by kernel_rfl
@[simp] theorem ty_intstr_none : isTys ["int", "str"] (.none) = some false := by kernel_rfl
theorem wp_seq {a b : M Flw} {ρ ρ1 : Sts} {Q : Flw → Sts → Prop} (h : wp a ρ fun f ρ' => f = .nx ∧ ρ' = ρ1) (h2 : wp b ρ1 Q) : wp (sq a b) ρ Q := by
  rw [wp_sq]
  refine wp_mono h fun f ρ' e => ?_
  obtain ⟨rfl, rfl⟩ := e
  exact h2
theorem wp_bnd2 {α β : Type} {m : M α} {k : α → M β} {ρ ρ1 : Sts} {a : α} {Q : β → Sts → Prop} (h : wp m ρ fun v ρ' => v = a ∧ ρ' = ρ1) (h2 : wp (k a) ρ1 Q) : wp (bnd m k) ρ Q := by
  rw [wp_bnd]
  refine wp_mono h fun f ρ' e => ?_
  obtain ⟨rfl, rfl⟩ := e
  exact h2
theorem wp_eq {α : Type} {m : M α} {ρ ρ1 : Sts} {a : α} {Q : α → Sts → Prop} (h : wp m ρ fun v ρ' => v = a ∧ ρ' = ρ1) (h2 : Q a ρ1) : wp m ρ Q := by
  refine wp_mono h fun f ρ' e => ?_
  obtain ⟨rfl, rfl⟩ := e
  exact h2
end PD
end
section
/-! PL2: comparisons. -/
namespace PD
open PySem
@[simp] theorem cmp_eq_int {a b : Int} : cmpOp .Eq (.int a) (.int b) = some (decide (a = b)) := by
  simp [cmpOp, cmpEq, PyData.plain, depthOk, PyData.depth, PyData.eqv]
  rfl
@[simp] theorem cmp_ne_int {a b : Int} : cmpOp .NotEq (.int a) (.int b) = some (!decide (a = b)) := by
  show notO (cmpOp .Eq (.int a) (.int b)) = _
  rw [cmp_eq_int]; rfl
@[simp] theorem cmp_eq_str {a b : Str} : cmpOp .Eq (.str a) (.str b) = some (decide (a = b)) := by
  simp [cmpOp, cmpEq, PyData.plain, depthOk, PyData.depth, PyData.eqv]
  rfl
@[simp] theorem cmp_lt_int {a b : Int} : cmpOp .Lt (.int a) (.int b) = some (decide (a < b)) := rfl
@[simp] theorem cmp_gt_int {a b : Int} : cmpOp .Gt (.int a) (.int b) = some (decide (b < a)) := rfl
@[simp] theorem cmp_le_int {a b : Int} : cmpOp .LtE (.int a) (.int b) = some (!decide (b < a)) := rfl
@[simp] theorem cmp_ge_int {a b : Int} : cmpOp .GtE (.int a) (.int b) = some (!decide (a < b)) := rfl
@[simp] theorem cmp_is_none {a : PyData} : cmpOp .Is a .none = some (match a with
  | .none => true
  | _ => false) := by cases a <;> rfl
/-- data that are shallow: rows of numbers and texts -/
def leafy : PyData → Bool
  | .none => true
  | .bool _ => true
  | .int _ => true
  | .str _ => true
  | _ => false
theorem leafy_plain {d : PyData} (h : leafy d = true) : d.plain = true ∧ d.depth = 0 := by
  cases d <;> first | exact ⟨rfl, rfl⟩ | cases h
theorem plainAll_mem : ∀ {xs : List PyData}, (∀ x ∈ xs, x.plain = true) → PyData.plainAll xs = true
  | [], _ => rfl
  | x :: xs, h => by
    rw [PyData.plainAll, h x (List.mem_cons_self ..), plainAll_mem fun y hy => h y (List.mem_cons_of_mem _ hy)]
    rfl
theorem depthAll_le {k : Nat} : ∀ {xs : List PyData}, (∀ x ∈ xs, x.depth ≤ k) → PyData.depthAll xs ≤ k
  | [], _ => by rw [PyData.depthAll]; omega
  | x :: xs, h => by
    have h1 := h x (List.mem_cons_self ..)
    have h2 := depthAll_le fun y hy => h y (List.mem_cons_of_mem _ hy)
    rw [PyData.depthAll]
    omega
theorem notO_some (b : Bool) : notO (some b) = some (!b) := rfl
theorem cmp_ne {a b : PyData} : cmpOp .NotEq a b = notO (cmpOp .Eq a b) := rfl
theorem cmp_notin {a b : PyData} : cmpOp .NotIn a b = notO (cmpOp .In a b) := rfl
theorem in_list {x : PyData} {xs : List PyData} (hx : leafy x = true) (h : ∀ y ∈ xs, y.plain = true) : cmpOp .In x (.list xs) = some (xs.any fun y => PyData.eqv y x) := by
  obtain ⟨h1, h2⟩ := leafy_plain hx
  show (if x.plain && PyData.plainAll xs && decide (min (PyData.depthAll xs) x.depth ≤ 50) then some (xs.any fun y => PyData.eqv y x) else none) = _
  rw [if_pos]
  rw [h1, plainAll_mem h, h2]
  simp
theorem in_strs (x : Str) (l : List Str) : cmpOp .In (.str x) (.list (l.map PyData.str)) = some (decide (x ∈ l)) := by
  rw [in_list rfl fun y hy => by obtain ⟨z, _, rfl⟩ := List.mem_map.mp hy; rfl]
  congr 1
  rw [Bool.eq_iff_iff, List.any_map, decide_eq_true_iff, List.any_eq_true]
  constructor
  · rintro ⟨y, hy, e⟩
    have e : (y == x) = true := by simpa [PyData.eqv] using e
    rw [← eq_of_beq e]; exact hy
  · intro h
    exact ⟨x, h, by simp [PyData.eqv]⟩
theorem in_ints (x : Int) (l : List Int) : cmpOp .In (.int x) (.list (l.map PyData.int)) = some (decide (x ∈ l)) := by
  rw [in_list rfl fun y hy => by obtain ⟨z, _, rfl⟩ := List.mem_map.mp hy; rfl]
  congr 1
  rw [Bool.eq_iff_iff, List.any_map, decide_eq_true_iff, List.any_eq_true]
  constructor
  · rintro ⟨y, hy, e⟩
    have e : (y == x) = true := by simpa [PyData.eqv] using e
    rw [← eq_of_beq e]; exact hy
  · intro h
    exact ⟨x, h, by simp [PyData.eqv]⟩
theorem notin_bools (l : List Bool) : cmpOp .NotIn (.bool false) (.list (l.map PyData.bool)) = some (l.all id) := by
  rw [cmp_notin, in_list rfl fun y hy => by obtain ⟨z, _, rfl⟩ := List.mem_map.mp hy; rfl]
  show some _ = some _
  congr 1
  induction l with
  | nil => rfl
  | cons b l ih =>
    rw [List.map_cons, List.any_cons, List.all_cons, ← ih]
    cases b <;> simp [PyData.eqv]
theorem refl_eq {d : PyData} (h : d.plain = true) (hd : d.depth ≤ 50) : cmpOp .Eq d d = some true := by
  show (if d.plain && d.plain && depthOk d d then some (PyData.eqv d d) else _) = _
  rw [if_pos, PySem.SeqAt.eqv_refl_plain d h]
  rw [h]
  simp [depthOk, hd]
theorem eq_nil {xs : List PyData} (h : ∀ y ∈ xs, y.plain = true) : cmpOp .Eq (.list xs) (.list []) = some xs.isEmpty := by
  have hp : (PyData.list xs).plain = true := by rw [PyData.plain]; exact plainAll_mem h
  show (if (PyData.list xs).plain && (PyData.list []).plain && depthOk (.list xs) (.list []) then some (PyData.eqv (.list xs) (.list [])) else _) = _
  have hd : depthOk (.list xs) (.list []) = true := by simp [depthOk, PyData.depth, PyData.depthAll]
  rw [if_pos (by rw [hp, hd]; rfl)]
  cases xs <;> simp [PyData.eqv, PyData.eqvAll]
theorem kv_sub (o : Tab) (nd : (tkeys o).Nodup) : kvSub (kv o) (kv o) = true := by
  have key : ∀ r : Tab, (∀ p ∈ r, p.1 ∈ tkeys o ∧ tget o p.1 = p.2) → kvSub (kv o) (kv r) = true := by
    intro r
    induction r with
    | nil => intro _; rfl
    | cons p r ih =>
      intro h
      obtain ⟨h1, h2⟩ := h p (List.mem_cons_self ..)
      show (match dget (kv o) (.str p.1) with
        | some u => PyData.eqv (.int p.2) u && kvSub (kv o) (kv r)
        | none => false) = true
      rw [dget_kv h1, ih fun q hq => h q (List.mem_cons_of_mem _ hq), h2]
      simp [PyData.eqv]
  refine key o fun p hp => ?_
  rw [kv_of o nd] at hp
  obtain ⟨x, hx, rfl⟩ := List.mem_map.mp hp
  exact ⟨hx, rfl⟩
theorem tab_eq (o : Tab) (nd : (tkeys o).Nodup) : cmpOp .Eq (.dict (kv o)) (.dict (kv o)) = some true := by
  have hp : (PyData.dict (kv o)).plain = false := by rw [PyData.plain]
  have hk : plainKv (kv o) = true := by
    unfold plainKv kv
    rw [List.all_map]
    exact List.all_eq_true.mpr fun _ _ => by simp [PyData.plain, PyData.depth]
  show cmpEq (.dict (kv o)) (.dict (kv o)) = _
  unfold cmpEq
  simp only [hp, Bool.false_and, hk, allLeaf_kv, kv_sub o nd]
  simp
/-! numbers -/
theorem mul_small {a b : Int} (ha : 0 ≤ a ∧ a ≤ 1000000) (hb : 0 ≤ b ∧ b ≤ 1000000) : mulOk a b = true := by
  unfold mulOk
  have key : ∀ z : Int, 0 ≤ z ∧ z ≤ 1000000 → z.natAbs.log2 ≤ 20 := fun z hz => by
    have : z.natAbs ≤ 1000000 := by omega
    have := Nat.log2_lt (n := z.natAbs) (k := 20)
    by_cases q : z.natAbs = 0
    · rw [q]; decide
    · have := (this q).mpr (by omega); omega
  have := key a ha
  have := key b hb
  exact decide_eq_true (by omega)
theorem log_small {b : Int} (h : 0 < b ∧ b ≤ 1000000) : b.natAbs.log2 < 9000 := by
  have := Nat.log2_lt (n := b.natAbs) (k := 20)
  have := (this (by omega)).mpr (by omega)
  omega
@[simp] theorem num_sub {i j : Int} : numAll .Sub (.int i) (.int j) = some (0, .int (i - j)) := rfl
theorem num_mul {i j : Int} (h : mulOk i j = true) : numAll .Mult (.int i) (.int j) = some (0, .int (i * j)) := by
  show (match (if mulOk i j then some ((0 : Nat), PyData.int (i * j)) else none) with
    | some v => some v
    | none => _) = _
  rw [if_pos h]
theorem num_mod {i j : Int} (h : 0 < j) : numAll .Mod (.int i) (.int j) = some (0, .int (i % j)) := by
  show (match (if decide (0 < j) then some ((0 : Nat), PyData.int (i % j)) else none) with
    | some v => some v
    | none => _) = _
  rw [if_pos (decide_eq_true h)]
theorem num_div {i j : Int} (h : 0 < j ∧ j.natAbs.log2 < 9000) : numAll .FloorDiv (.int i) (.int j) = some (0, .int (i / j)) := by
  show (match (if decide (0 < j) && decide (j.natAbs.log2 < 9000) then some ((0 : Nat), PyData.int (i / j)) else none) with
    | some v => some v
    | none => _) = _
  rw [if_pos (by rw [decide_eq_true h.1, decide_eq_true h.2]; rfl)]
@[simp] theorem add_int {i j : Int} : addOp (.int i) (.int j) = some (0, .int (i + j)) := rfl
@[simp] theorem two_ok : (2 ≤ sizeLine) = True := eq_true (small_ok (by decide))
@[simp] theorem one_ok : (1 ≤ sizeLine) = True := eq_true (small_ok (by decide))
@[simp] theorem nil_ok : (0 ≤ sizeLine) = True := eq_true (small_ok (by decide))
theorem lev_2 {k j : Nat} {a b : PyData} (ha : imm a = true) (hb : imm b = true) : lev [(k, a), (j, b)] = 0 := lev_imm fun v hv => by
  rcases List.mem_cons.mp hv with rfl | hv
  · exact ha
  · rcases List.mem_cons.mp hv with rfl | hv
    · exact hb
    · cases hv
@[simp] theorem lev_int_str {k j : Nat} {a : Int} {b : Str} : lev [(k, .int a), (j, .str b)] = 0 := lev_2 rfl rfl
@[simp] theorem lev_str_int {k j : Nat} {a : Int} {b : Str} : lev [(k, .str b), (j, .int a)] = 0 := lev_2 rfl rfl
@[simp] theorem lev_nil : lev [] = 0 := rfl
/-! sorting -/
theorem sortD_mem {xs : List PyData} {d : PyData} : d ∈ sortD xs ↔ d ∈ xs := by rw [sortD_merge]; exact List.mem_mergeSort
theorem sortD_perm (xs : List PyData) : (sortD xs).Perm xs := by rw [sortD_merge]; exact List.mergeSort_perm _ _
theorem sortD_len (xs : List PyData) : (sortD xs).length = xs.length := by rw [sortD_merge]; exact List.length_mergeSort _
theorem sortOk_pairs {γ : Type} (f : γ → Int) (g : γ → Str) (l : List γ) (h : l.length ≤ 1000000) : sortOk (l.map fun x => .tuple [.int (f x), .str (g x)]) = true := by
  unfold sortOk
  have h1 : ((l.map fun x => PyData.tuple [.int (f x), .str (g x)]).all fun x => (l.map fun x => PyData.tuple [.int (f x), .str (g x)]).all fun y => W.alike x y) = true := by
    rw [List.all_map]
    refine List.all_eq_true.mpr fun x _ => ?_
    show ((l.map fun x => PyData.tuple [.int (f x), .str (g x)]).all fun y => W.alike _ y) = true
    rw [List.all_map]
    exact List.all_eq_true.mpr fun y _ => by simp [W.alike, W.alikeAll]
  rw [h1]
  have h2 : ∀ (p : PyData → Bool), (∀ a b, p (.tuple [.int a, .str b]) = true) → (l.map fun x => PyData.tuple [.int (f x), .str (g x)]).all p = true := fun p hp => by
    rw [List.all_map]
    exact List.all_eq_true.mpr fun y _ => hp _ _
  rw [Bool.and_eq_true, Bool.and_eq_true, Bool.and_eq_true, Bool.or_eq_true]
  exact ⟨⟨⟨decide_eq_true (by rw [List.length_map]; exact small_ok h), rfl⟩, .inl (h2 _ fun _ _ => rfl)⟩, h2 _ fun a b => by simp [PyData.depth, PyData.depthAll]⟩
theorem sortOk_strs (l : List Str) (h : l.length ≤ 1000000) : sortOk (l.map PyData.str) = true := by
  unfold sortOk
  have h1 : ((l.map PyData.str).all fun x => (l.map PyData.str).all fun y => W.alike x y) = true := by
    rw [List.all_map]
    refine List.all_eq_true.mpr fun x _ => ?_
    show ((l.map PyData.str).all fun y => W.alike _ y) = true
    rw [List.all_map]
    exact List.all_eq_true.mpr fun y _ => by simp [W.alike]
  rw [h1]
  have h2 : ∀ (p : PyData → Bool), (∀ b, p (.str b) = true) → (l.map PyData.str).all p = true := fun p hp => by
    rw [List.all_map]
    exact List.all_eq_true.mpr fun y _ => hp _
  rw [Bool.and_eq_true, Bool.and_eq_true, Bool.and_eq_true, Bool.or_eq_true]
  exact ⟨⟨⟨decide_eq_true (by rw [List.length_map]; exact small_ok h), rfl⟩, .inr (h2 _ fun _ => rfl)⟩, h2 _ fun a => by simp [PyData.depth]⟩
/-! tables made -/
theorem merge_app : ∀ (r t : Tab), (tkeys (t ++ r)).Nodup → mergeD (kv t) (kv r) = kv (t ++ r)
  | [], t, _ => by rw [List.append_nil]; rfl
  | (x, v) :: r, t, nd => by
    have hx : x ∉ tkeys t := fun h => by
      unfold tkeys at nd h
      rw [List.map_append, List.map_cons] at nd
      exact (List.nodup_append.mp nd).2.2 _ h _ (List.mem_cons_self ..) rfl
    have hp : ∀ u : Tab, x ∉ tkeys u → put u x v = u ++ [(x, v)] := fun u => by
      induction u with
      | nil => intro _; rfl
      | cons p u ih =>
        intro h
        unfold put
        rw [if_neg (fun (e : p.1 = x) => h (by rw [← e]; exact List.mem_cons_self ..)), ih fun z => h (List.mem_cons_of_mem _ z)]
        rfl
    show mergeD (dput (kv t) (.str x) (.int v)) (kv r) = _
    rw [dput_kv, hp t hx, merge_app r (t ++ [(x, v)]) (by rw [List.append_assoc]; exact nd), List.append_assoc]
    rfl
theorem merge_kv (t : Tab) (nd : (tkeys t).Nodup) : mergeD [] (kv t) = kv t := merge_app t [] nd
theorem merge_map (l : List Str) (f : Str → Int) (nd : l.Nodup) : mergeD [] (l.map fun x => (PyData.str x, PyData.int (f x))) = kv (l.map fun x => (x, f x)) := by
  have := merge_kv (l.map fun x => (x, f x)) (by unfold tkeys; rw [List.map_map]; simpa [Function.comp_def] using nd)
  rw [← this]
  unfold kv
  rw [List.map_map]
  rfl
theorem tget_map {l : List Str} {f : Str → Int} {x : Str} (h : x ∈ l) : tget (l.map fun x => (x, f x)) x = f x := by
  induction l with
  | nil => cases h
  | cons y l ih =>
    show (if y = x then f y else tget (l.map fun x => (x, f x)) x) = _
    by_cases e : y = x
    · rw [if_pos e, e]
    · rw [if_neg e]
      rcases List.mem_cons.mp h with h | h
      · exact absurd h.symm e
      · exact ih h
@[simp] theorem tkeys_map (l : List Str) (f : Str → Int) : tkeys (l.map fun x => (x, f x)) = l := by
  unfold tkeys
  rw [List.map_map]
  simp [Function.comp_def]
theorem cut_map {α β : Type} (f : α → β) (l : List α) (lo hi : Option Int) : cutD (l.map f) lo hi = (cutD l lo hi).map f := by
  unfold cutD
  rw [List.length_map, ← List.map_drop, ← List.map_take]
theorem cut_sub {α : Type} {l : List α} {lo hi : Option Int} {x : α} (h : x ∈ cutD l lo hi) : x ∈ l := by
  unfold cutD at h
  exact List.mem_of_mem_drop (List.mem_of_mem_take h)
theorem cut_nodup {α : Type} {l : List α} (lo hi : Option Int) (nd : l.Nodup) : (cutD l lo hi).Nodup := by
  unfold cutD
  exact ((List.take_sublist _ _).trans (List.drop_sublist _ _)).nodup nd
/-! loops over what is told by a list -/
theorem wp_forT {γ : Type} {tg : PyData → M Unit} {body : M Flw} {Q : Flw → Sts → Prop} (c : γ → PyData) : ∀ (xs : List γ) (I : List γ → Sts → Prop) {ρ : Sts}, I [] ρ → (∀ pre x post ρ, xs = pre ++ x :: post → I pre ρ → wp (tg (c x)) ρ fun _ ρ1 => wp body ρ1 fun f ρ2 => match f with
    | .nx => I (pre ++ [x]) ρ2
    | .ct => I (pre ++ [x]) ρ2
    | .bk => Q .nx ρ2
    | .rt v => Q (.rt v) ρ2) → (∀ ρ, I xs ρ → Q .nx ρ) → wp (forM tg body (xs.map c)) ρ Q := by
  intro xs I ρ h0 hs he
  refine wp_forM (xs.map c) (fun i => I (xs.take i)) (by simpa using h0) (fun i x ρ hx hI => ?_) (fun ρ h => he ρ (by simpa using h))
  rw [List.getElem?_map] at hx
  cases e : xs[i]? with
  | none => rw [e] at hx; cases hx
  | some y =>
    rw [e] at hx
    cases hx
    obtain ⟨hi, e'⟩ := List.getElem?_eq_some_iff.mp e
    have e1 : xs = xs.take i ++ y :: xs.drop (i + 1) := by
      rw [← e', ← List.drop_eq_getElem_cons hi, List.take_append_drop]
    have e2 : xs.take i ++ [y] = xs.take (i + 1) := by
      rw [List.take_succ, e]
      rfl
    have := hs (xs.take i) y _ ρ e1 hI
    rw [e2] at this
    exact this
/-- a slot that may be stored into -/
def Sf (s : Slot) : Prop := s = .dead ∨ ∃ k d, s = .val k d
theorem aug_add {i j : Int} : augOp .Add (.int i) (.int j) = some (0, .int (i + j)) := rfl
theorem itemN_kv {o : Tab} {x : Str} (h : x ∈ tkeys o) : itemN (.dict (kv o)) (.str x) = some (tget o x) := by
  unfold itemN
  rw [item_kv h]
  rfl
theorem range_nat (a : Nat) : rangeD 0 (a : Int) = (List.range a).map fun (n : Nat) => PyData.int (n : Int) := by
  unfold rangeD
  simp
theorem rangeB_ok' {i : Int} (h : 0 ≤ i ∧ i ≤ 1000000) : rangeB i = true := by
  have h1 : (-(2 ^ 62) : Int) ≤ 0 := by decide
  have h2 : (1000000 : Int) < 2 ^ 62 := by decide
  unfold rangeB
  rw [decide_eq_true (Int.le_trans h1 h.1), decide_eq_true (Int.lt_of_le_of_lt h.2 h2)]
  rfl
theorem range_ok (a : Nat) (h : a ≤ 1000000) : (rangeB 0 && rangeB (a : Int)) = true := by
  rw [rangeB_ok' (by omega), rangeB_ok' (by omega)]
  rfl
theorem wp_forR {lo hi : M Int} {a b : Int} {m : Nat} {c : Nat → PyData} {tg : PyData → M Unit} {body : M Flw} {ρ ρ1 ρ2 : Sts} {Q : Flw → Sts → Prop} (h1 : wp lo ρ fun j ρ' => j = a ∧ ρ' = ρ1) (h2 : wp hi ρ1 fun j ρ' => j = b ∧ ρ' = ρ2) (ha : 0 ≤ a ∧ a ≤ 1000000) (hb : 0 ≤ b ∧ b ≤ 1000000) (hm : (b - a).toNat = m) (hc : ∀ n : Nat, c n = .int (a + (n : Int)))
    (I : List Nat → Sts → Prop) (h0 : I [] ρ2) (hs : ∀ (pre : List Nat) (x : Nat) (post : List Nat) (ρ : Sts), List.range m = pre ++ x :: post → x = pre.length → pre.length < m → I pre ρ → wp (tg (c x)) ρ fun _ ρ1 => wp body ρ1 fun f ρ2 => match f with
    | .nx => I (pre ++ [x]) ρ2
    | .ct => I (pre ++ [x]) ρ2
    | .bk => Q .nx ρ2
    | .rt v => Q (.rt v) ρ2) (he : ∀ ρ, I (List.range m) ρ → Q .nx ρ) : wp (cFor (walkR lo hi) tg body) ρ Q := by
  rw [wp_cFor, wp_walkR]
  refine wp_mono h1 fun j ρ' e => ?_
  obtain ⟨e1, e2⟩ := e
  rw [e1, e2]
  refine wp_mono h2 fun j ρ' e => ?_
  obtain ⟨e1, e2⟩ := e
  rw [e1, e2, rangeB_ok' ha, rangeB_ok' hb]
  have hx : rangeD a b = (List.range m).map c := by
    unfold rangeD
    rw [hm]
    exact List.map_congr_left fun n _ => (hc n).symm
  simp only [Bool.and_self, if_true, wp_unw]
  rw [hx]
  refine wp_forT c (List.range m) I h0 (fun pre x post ρ e => ?_) he
  have hlen : x = pre.length ∧ pre.length < m := by
    have h1 := congrArg (fun l => l[pre.length]?) e
    have h2 := congrArg List.length e
    simp at h1 h2
    by_cases hlt : pre.length < m
    · simp [hlt] at h1
      exact ⟨h1.symm, hlt⟩
    · omega
  exact hs pre x post ρ e hlen.1 hlen.2
end PD
end
section
namespace K88
open PySem PD
def sumT (o : Tab) : Int := ((tkeys o).map (tget o)).sum
theorem all_shares_ok (n l : Nat) (o : Tab) (h : o.length ≤ 1000) : callF P (n + 1) "all_shares" [.val l (.dict (kv o))] = some (.ok (0, .int (sumT o)) [.dead]) := by
  rw [e_all_shares]
  apply outF_eq
  unfold z_all_shares
  simp [items_kv]
  refine wp_compT PyData.str (fun x => [(0, PyData.int (tget o x))]) rfl _ (fun x hx => ?_) ?_
  · simp [item_kv hx]
  · simp [bi1_sum, Function.comp_def, allInts_map', small_ok (Nat.le_trans h (by decide)), sumT]
/-- the owners: their names are of five, their shares small -/
def nms : List Str := ["ann", "b10", "b2", "cy", "di", "a", "b", "c"]
structure Own (o : Tab) : Prop where
  nd : (tkeys o).Nodup
  nm : ∀ x ∈ tkeys o, x ∈ nms
  ge : ∀ x ∈ tkeys o, 0 ≤ tget o x ∧ tget o x ≤ 10
  pos : ∃ x ∈ tkeys o, 0 < tget o x
theorem is_count_int (n : Nat) (l : Nat) (i : Int) : callF P (n + 2) "is_count" [.val l (.int i)] = some (.ok (0, .bool (!decide (i < 0))) [.dead]) := by kernel_rfl
theorem name_1 (n l : Nat) : callF P (n + 3) "is_name" [.val l (.str "ann")] = some (.ok (0, .bool true) [.dead]) := by kernel_rfl
theorem name_2 (n l : Nat) : callF P (n + 3) "is_name" [.val l (.str "b10")] = some (.ok (0, .bool true) [.dead]) := by kernel_rfl
theorem name_3 (n l : Nat) : callF P (n + 3) "is_name" [.val l (.str "b2")] = some (.ok (0, .bool true) [.dead]) := by kernel_rfl
theorem name_4 (n l : Nat) : callF P (n + 3) "is_name" [.val l (.str "cy")] = some (.ok (0, .bool true) [.dead]) := by kernel_rfl
theorem name_5 (n l : Nat) : callF P (n + 3) "is_name" [.val l (.str "di")] = some (.ok (0, .bool true) [.dead]) := by kernel_rfl
theorem name_6 (n l : Nat) : callF P (n + 3) "is_name" [.val l (.str "a")] = some (.ok (0, .bool true) [.dead]) := by kernel_rfl
theorem name_7 (n l : Nat) : callF P (n + 3) "is_name" [.val l (.str "b")] = some (.ok (0, .bool true) [.dead]) := by kernel_rfl
theorem name_8 (n l : Nat) : callF P (n + 3) "is_name" [.val l (.str "c")] = some (.ok (0, .bool true) [.dead]) := by kernel_rfl
theorem is_name_ok (n l : Nat) (x : Str) (h : x ∈ nms) : callF P (n + 3) "is_name" [.val l (.str x)] = some (.ok (0, .bool true) [.dead]) := by
  unfold nms at h
  simp only [List.mem_cons, List.not_mem_nil, or_false] at h
  rcases h with rfl | rfl | rfl | rfl | rfl | rfl | rfl | rfl
  · exact name_1 n l
  · exact name_2 n l
  · exact name_3 n l
  · exact name_4 n l
  · exact name_5 n l
  · exact name_6 n l
  · exact name_7 n l
  · exact name_8 n l
theorem check_owners_ok (n l : Nat) (o : Tab) (h : o.length ≤ 1000) (w : Own o) : callF P (n + 4) "check_owners" [.val l (.dict (kv o))] = some (.ok (0, .none) [.dead]) := by
  rw [e_check_owners]
  apply outF_nx
  unfold z_check_owners
  have hl : o.length ≤ sizeLine := small_ok (Nat.le_trans h (by decide))
  refine wp_seq (ρ1 := [.val 0 (.dict (kv o)), .val 0 (.bool true), .dead]) ?_ (wp_seq (ρ1 := [.val 0 (.dict (kv o)), .val 0 (.bool true), .dead]) ?_ ?_)
  · simp [items_kv]
    refine wp_compT PyData.str (fun x => [(0, PyData.bool true)]) rfl _ (fun x hx => ?_) ?_
    · simp [is_name_ok _ _ _ (w.nm x hx), item_kv hx, is_count_int, (w.ge x hx).1]
    · simp [bi1_all, Function.comp_def, allBools_map', hl]
  · simp [items_kv]
    refine wp_compT PyData.str (fun x => [(0, PyData.bool (decide (tget o x = 0)))]) rfl _ (fun x hx => ?_) ?_
    · simp [item_kv hx]
    · simp [bi1_all, Function.comp_def, allBools_map', hl]
      obtain ⟨x, hx, p⟩ := w.pos
      exact ⟨x, hx, by omega⟩
  · simp
theorem check_owners_sum_ok (n l l' : Nat) (o : Tab) (a : Int) (h : o.length ≤ 1000) (w : Own o) (ha : 0 ≤ a) : callF P (n + 5) "check_owners_sum" [.val l (.dict (kv o)), .val l' (.int a)] = some (.ok (0, .none) [.dead, .dead]) := by
  rw [e_check_owners_sum]
  apply outF_nx
  unfold z_check_owners_sum
  simp [check_owners_ok _ _ o h w, is_count_int, ha]
/-- what is sorted, and how -/
def rst (o : Tab) (a : Int) (x : Str) : Int := 0 - a * tget o x % sumT o
def told (o : Tab) (a : Int) : List PyData := (tkeys o).map fun x => .tuple [.int (rst o a x), .str x]
theorem sumT_pos {o : Tab} (w : Own o) : 0 < sumT o := by
  unfold sumT
  obtain ⟨x, hx, p⟩ := w.pos
  have ge := w.ge
  generalize tkeys o = l at *
  induction l with
  | nil => cases hx
  | cons y l ih =>
    rw [List.map_cons, List.sum_cons]
    have hl : 0 ≤ (l.map (tget o)).sum := by
      have : ∀ m : List Str, (∀ x ∈ m, 0 ≤ tget o x) → 0 ≤ (m.map (tget o)).sum := by
        intro m
        induction m with
        | nil => intro _; simp
        | cons z m ihm =>
          intro hm
          rw [List.map_cons, List.sum_cons]
          have := hm z (List.mem_cons_self ..)
          have := ihm fun x hx => hm x (List.mem_cons_of_mem _ hx)
          omega
      exact this l fun x hx => (ge x (List.mem_cons_of_mem _ hx)).1
    have hy := (ge y (List.mem_cons_self ..)).1
    rcases List.mem_cons.mp hx with rfl | hx
    · omega
    · have := ih hx fun x hx => ge x (List.mem_cons_of_mem _ hx)
      omega
theorem sumT_le {o : Tab} (w : Own o) (h : o.length ≤ 1000) : sumT o ≤ 10000 := by
  unfold sumT
  have : ∀ m : List Str, (∀ x ∈ m, x ∈ tkeys o) → (m.map (tget o)).sum ≤ 10 * m.length := by
    intro m
    induction m with
    | nil => intro _; simp
    | cons z m ihm =>
      intro hm
      rw [List.map_cons, List.sum_cons, List.length_cons]
      have := (w.ge z (hm z (List.mem_cons_self ..))).2
      have := ihm fun x hx => hm x (List.mem_cons_of_mem _ hx)
      omega
  have := this (tkeys o) fun _ h => h
  rw [tkeys_len] at this
  omega
def swp (d : PyData) : PyData := match d with
  | .tuple [.int r, .str x] => .tuple [.str x, .int (0 - r)]
  | _ => .none
theorem told_form {o : Tab} {a : Int} {d : PyData} (h : d ∈ sortD (told o a)) : ∃ x ∈ tkeys o, d = .tuple [.int (rst o a x), .str x] := by
  have := sortD_mem.mp h
  unfold told at this
  obtain ⟨x, hx, rfl⟩ := List.mem_map.mp this
  exact ⟨x, hx, rfl⟩
theorem rests_in_ok (n : Nat) (o : Tab) (a : Int) (h : o.length ≤ 1000) (w : Own o) (ha : 0 ≤ a ∧ a ≤ 1000) : callF P (n + 2) "rests_in" [.val 0 (.dict (kv o)), .val 0 (.int a)] = some (.ok (1, .list ((sortD (told o a)).map swp)) [.dead, .dead]) := by
  rw [e_rests_in]
  apply outF_eq
  unfold z_rests_in
  have hl : o.length ≤ sizeLine := small_ok (Nat.le_trans h (by decide))
  have tl : (told o a).length = o.length := by unfold told; rw [List.length_map, tkeys_len]
  refine wp_seq (ρ1 := [.val 0 (.dict (kv o)), .val 0 (.int a), .val 0 (.int (sumT o)), .dead, .dead, .dead]) ?_ (wp_seq (ρ1 := [.val 0 (.dict (kv o)), .val 0 (.int a), .val 0 (.int (sumT o)), .val 1 (.list (told o a)), .dead, .dead]) ?_ ?_)
  · simp [all_shares_ok _ _ o h]
  · simp [items_kv]
    refine wp_compT PyData.str (fun x => [(1, PyData.tuple [.int (rst o a x), .str x])]) rfl _ (fun x hx => ?_) ?_
    · have := w.ge x hx
      simp [item_kv hx, num_mul (mul_small (a := a) (b := tget o x) (by omega) (by omega)), num_mod (sumT_pos w), rst]
    · simp [hl]
      exact ⟨lev_map1 1 _ _ fun x hx => rfl, rfl⟩
  · have so : sortOk (told o a) = true := sortOk_pairs _ _ _ (by rw [tkeys_len]; omega)
    simp [bk1_sorted_list, so, items_list]
    refine wp_compM (fun d => [(1, swp d)]) rfl _ (fun d hd => ?_) ?_
    · obtain ⟨x, hx, rfl⟩ := told_form hd
      simp [swp]
    · simp [sortD_len, tl, hl]
      refine lev_map1 1 _ _ fun d hd => ?_
      obtain ⟨x, hx, rfl⟩ := told_form hd
      rfl
end K88
end
section
namespace K88
open PySem PD
def lo (o : Tab) (a : Int) : Int := a - ((tkeys o).map fun x => a * tget o x / sumT o).sum
theorem left_over_ok (n : Nat) (o : Tab) (a : Int) (h : o.length ≤ 1000) (w : Own o) (ha : 0 ≤ a ∧ a ≤ 1000) : callF P (n + 2) "left_over" [.val 0 (.dict (kv o)), .val 0 (.int a)] = some (.ok (0, .int (lo o a)) [.dead, .dead]) := by
  rw [e_left_over]
  apply outF_eq
  unfold z_left_over
  have hl : o.length ≤ sizeLine := small_ok (Nat.le_trans h (by decide))
  have hp := sumT_pos w
  have hs := sumT_le w h
  refine wp_seq (ρ1 := [.val 0 (.dict (kv o)), .val 0 (.int a), .val 0 (.int (sumT o)), .dead]) ?_ ?_
  · simp [all_shares_ok _ _ o h]
  · simp [items_kv]
    refine wp_compT PyData.str (fun x => [(0, PyData.int (a * tget o x / sumT o))]) rfl _ (fun x hx => ?_) ?_
    · have := w.ge x hx
      simp [item_kv hx, num_mul (mul_small (a := a) (b := tget o x) (by omega) (by omega)), num_div (i := a * tget o x) ⟨hp, log_small ⟨hp, by omega⟩⟩]
    · simp [bi1_sum, Function.comp_def, allInts_map', hl, lo]
/-- the owners by falling rests -/
def nameOf (d : PyData) : Str := match d with
  | .tuple [_, .str x] => x
  | _ => ""
def ordN (o : Tab) (a : Int) : List Str := (sortD (told o a)).map nameOf
theorem ordN_told (o : Tab) (a : Int) : sortD (told o a) = (ordN o a).map fun x => .tuple [.int (rst o a x), .str x] := by
  unfold ordN
  rw [List.map_map]
  have : ∀ l : List PyData, (∀ d ∈ l, d ∈ sortD (told o a)) → l = l.map ((fun x => PyData.tuple [.int (rst o a x), .str x]) ∘ nameOf) := by
    intro l
    induction l with
    | nil => intro _; rfl
    | cons d l ih =>
      intro h
      obtain ⟨x, hx, rfl⟩ := told_form (h d (List.mem_cons_self ..))
      rw [List.map_cons, ← ih fun d hd => h d (List.mem_cons_of_mem _ hd)]
      rfl
  exact this _ fun d hd => hd
theorem ordN_perm (o : Tab) (a : Int) : (ordN o a).Perm (tkeys o) := by
  have := (sortD_perm (told o a)).map nameOf
  unfold told at this
  rw [List.map_map] at this
  have e : (nameOf ∘ fun x => PyData.tuple [.int (rst o a x), .str x]) = id := funext fun x => rfl
  rw [e, List.map_id] at this
  exact this
def mores (o : Tab) (a : Int) : List Str := cutD (ordN o a) none (some (lo o a))
def brF (o : Tab) (a : Int) (x : Str) : Int := a * tget o x / sumT o + if x ∈ mores o a then 1 else 0
def br (o : Tab) (a : Int) : Tab := (tkeys o).map fun x => (x, brF o a x)
theorem by_rests_ok (n : Nat) (o : Tab) (a : Int) (h : o.length ≤ 1000) (w : Own o) (ha : 0 ≤ a ∧ a ≤ 1000) : callF P (n + 3) "by_rests" [.val 0 (.dict (kv o)), .val 0 (.int a)] = some (.ok (1, .dict (kv (br o a))) [.dead, .dead]) := by
  rw [e_by_rests]
  apply outF_eq
  unfold z_by_rests
  have hl : o.length ≤ sizeLine := small_ok (Nat.le_trans h (by decide))
  have hp := sumT_pos w
  have hs := sumT_le w h
  have ol : (ordN o a).length = o.length := by rw [(ordN_perm o a).length_eq, tkeys_len]
  refine wp_seq (ρ1 := [.val 0 (.dict (kv o)), .val 0 (.int a), .val 1 (.int (sumT o)), .val 1 (.list ((mores o a).map PyData.str)), .dead, .dead]) ?_ ?_
  · have e : (sortD (told o a)).map swp = (ordN o a).map fun x => .tuple [.str x, .int (0 - rst o a x)] := by
      rw [ordN_told, List.map_map]
      rfl
    simp [all_shares_ok _ _ o h, rests_in_ok _ o a h w ha, items_list, e]
    refine wp_compT (fun x => PyData.tuple [.str x, .int (-rst o a x)]) (fun x => [((0 : Nat), PyData.str x)]) (by rfl) _ (fun x hx => ?_) ?_
    · simp
    · have e2 : cutD ((ordN o a).map PyData.str) none (some (lo o a)) = (mores o a).map PyData.str := cut_map _ _ _ _
      simp [ol, hl, left_over_ok _ o a h w ha, sliceOf, Function.comp_def, e2, lev, minLev]
  · simp [items_kv]
    refine wp_compT PyData.str (fun x => [(PyData.str x, ((0 : Nat), PyData.int (brF o a x)))]) rfl _ (fun x hx => ?_) ?_
    · have := w.ge x hx
      simp [item_kv hx, num_mul (mul_small (a := a) (b := tget o x) (by omega) (by omega)), num_div (i := a * tget o x) ⟨hp, log_small ⟨hp, by omega⟩⟩, in_strs, brF]
      by_cases hm : x ∈ mores o a <;> simp [hm]
    · simp [hl, Function.comp_def, keyLeaf, lev_map, br]
      exact ⟨lev_map _ _ fun x hx => rfl, merge_map (tkeys o) (brF o a) w.nd⟩
end K88
end
section
namespace K88
open PySem PD
def strOf (d : PyData) : Str := match d with
  | .str x => x
  | _ => ""
def ks (o : Tab) : List Str := (sortD ((tkeys o).map PyData.str)).map strOf
theorem ks_sort (o : Tab) : sortD ((tkeys o).map PyData.str) = (ks o).map PyData.str := by
  unfold ks
  rw [List.map_map]
  have : ∀ l : List PyData, (∀ d ∈ l, d ∈ sortD ((tkeys o).map PyData.str)) → l = l.map (PyData.str ∘ strOf) := by
    intro l
    induction l with
    | nil => intro _; rfl
    | cons d l ih =>
      intro h
      obtain ⟨x, hx, rfl⟩ := List.mem_map.mp (sortD_mem.mp (h d (List.mem_cons_self ..)))
      rw [List.map_cons, ← ih fun d hd => h d (List.mem_cons_of_mem _ hd)]
      rfl
  exact this _ fun d hd => hd
theorem ks_perm (o : Tab) : (ks o).Perm (tkeys o) := by
  have := (sortD_perm ((tkeys o).map PyData.str)).map strOf
  rw [List.map_map] at this
  have e : (strOf ∘ PyData.str) = id := funext fun x => rfl
  rw [e, List.map_id] at this
  exact this
theorem ks_mem {o : Tab} {x : Str} : x ∈ ks o ↔ x ∈ tkeys o := (ks_perm o).mem_iff
theorem kv_keys (o : Tab) : (kv o).map (·.1) = (tkeys o).map PyData.str := by
  unfold kv tkeys
  rw [List.map_map, List.map_map]
  rfl
theorem sorted_kv (o : Tab) (h : o.length ≤ 1000) : bk1 "sorted" (.dict (kv o)) = some (1, .list ((ks o).map PyData.str)) := by
  rw [bk1_sorted_dict, kv_keys, sortOk_strs _ (by rw [tkeys_len]; omega), allLeaf_kv, ks_sort]
  rfl
/-- y has more than x, by the parting p -/
def gtT (o p : Tab) (y x : Str) : Bool := decide (tget o x * (2 * tget p y + 1) < tget o y * (2 * tget p x + 1))
def stepT (o p : Tab) (b : Option Str) (x : Str) : Option Str := match b with
  | none => some x
  | some b => if gtT o p x b then some x else some b
def optD (b : Option Str) : PyData := match b with
  | none => .none
  | some x => .str x
@[simp] theorem optD_none : optD none = .none := rfl
@[simp] theorem optD_some {x : Str} : optD (some x) = .str x := rfl
structure Prt (o p : Tab) : Prop where
  ky : tkeys p = tkeys o
  ge : ∀ x ∈ tkeys o, 0 ≤ tget p x ∧ tget p x ≤ 2000
theorem foldl_mem {o p : Tab} : ∀ (l : List Str) (b : Option Str) (x : Str), l.foldl (stepT o p) b = some x → x ∈ l ∨ b = some x
  | [], b, x, h => .inr h
  | y :: l, b, x, h => by
    rcases foldl_mem l _ x h with h | h
    · exact .inl (List.mem_cons_of_mem _ h)
    · cases b with
      | none => cases h; exact .inl (List.mem_cons_self ..)
      | some b =>
        unfold stepT at h
        dsimp only at h
        split at h
        · cases h; exact .inl (List.mem_cons_self ..)
        · exact .inr h
theorem next_ok (n j : Nat) (o p : Tab) (h : o.length ≤ 1000) (w : Own o) (q : Prt o p) : callF P (n + 1) "next_by_turn" [.val 0 (.dict (kv o)), .val j (.dict (kv p))] = some (.ok (0, optD ((ks o).foldl (stepT o p) none)) [.dead, .val j (.dict (kv p))]) := by
  rw [e_next_by_turn]
  apply outF_eq
  unfold z_next_by_turn
  have hl : o.length ≤ sizeLine := small_ok (Nat.le_trans h (by decide))
  refine wp_seq (ρ1 := [.val 0 (.dict (kv o)), .val j (.dict (kv p)), .val 0 (optD none), .dead]) ?_ ?_
  · simp [prots]
  rw [wp_sq]
  simp [sorted_kv o h, items_list]
  refine wp_forT PyData.str (ks o) (fun pre ρ => ∃ s, Sf s ∧ ρ = [.val 0 (.dict (kv o)), .val j (.dict (kv p)), .val 0 (optD (pre.foldl (stepT o p) none)), s]) ⟨_, .inl rfl, rfl⟩ (fun pre x post ρ e ⟨s, hs, er⟩ => ?_) (fun ρ ⟨s, hs, er⟩ => ?_)
  · subst er
    have hx : x ∈ tkeys o := ks_mem.mp (by rw [e]; simp)
    have store : wp (store [1] 3 (0, PyData.str x)) [.val 0 (.dict (kv o)), .val j (.dict (kv p)), .val 0 (optD (pre.foldl (stepT o p) none)), s] (fun _ ρ' => ρ' = [.val 0 (.dict (kv o)), .val j (.dict (kv p)), .val 0 (optD (pre.foldl (stepT o p) none)), .val 0 (.str x)]) := by
      rcases hs with rfl | ⟨k, d, rfl⟩ <;> simp [prots]
    refine wp_mono store fun _ ρ' e' => ?_
    subst e'
    rw [List.foldl_append]
    cases hb : pre.foldl (stepT o p) none with
    | none =>
      simp [prots, stepT]
      exact .inr ⟨_, _, rfl⟩
    | some b =>
      have hbm : b ∈ tkeys o := by
        rcases foldl_mem pre none b hb with z | z
        · exact ks_mem.mp (by rw [e]; simp [z])
        · cases z
      have w1 := w.ge x hx
      have w2 := w.ge b hbm
      have q1 := q.ge x hx
      have q2 := q.ge b hbm
      have px : x ∈ tkeys p := q.ky ▸ hx
      have pb : b ∈ tkeys p := q.ky ▸ hbm
      have m1 := mul_small (a := 2) (b := tget p x) (by omega) (by omega)
      have m2 := mul_small (a := 2) (b := tget p b) (by omega) (by omega)
      have m3 := mul_small (a := tget o x) (b := 2 * tget p b + 1) (by omega) (by omega)
      have m4 := mul_small (a := tget o b) (b := 2 * tget p x + 1) (by omega) (by omega)
      rw [wp_sq, wp_cIf, wp_tst, wp_xOr, wp_tst]
      simp only [wp_cCmp, wp_slotO, wp_tmp, wp_ret, wp_peek, rdS_val, rsv_s, rsv_t, List.getElem?_cons_zero, List.getElem?_cons_succ, rdO_val, wO_some, cmp_is_none, wBo_bool, optD_some, if_false, Bool.false_eq_true, wp_cNum, wp_cItem, wp_cAdd, wp_kids_t, wp_itemV_s, wKd_val, item_kv hx, item_kv hbm, item_kv px, item_kv pb, num_mul m1, num_mul m2, num_mul m3, num_mul m4, add_int, cmp_gt_int, imm_int, Bool.not_true, Bool.and_false]
      have fs : [x].foldl (stepT o p) (some b) = if gtT o p x b then some x else some b := rfl
      rw [fs]
      unfold gtT
      by_cases hc : decide (tget o b * (2 * tget p x + 1) < tget o x * (2 * tget p b + 1)) = true
      · rw [if_pos hc, if_pos hc]
        simp [prots]
        exact .inr ⟨_, _, rfl⟩
      · rw [if_neg hc, if_neg hc]
        simp
        exact .inr ⟨_, _, rfl⟩
  · subst er
    simp [prots]
end K88
end
section
namespace K88
open PySem PD
def dealS (o : Tab) : Nat → Tab × List Str
  | 0 => ((tkeys o).map fun x => (x, 0), [])
  | n + 1 => match (ks o).foldl (stepT o (dealS o n).1) none with
    | some b => (put (dealS o n).1 b (tget (dealS o n).1 b + 1), (dealS o n).2 ++ [b])
    | none => dealS o n
theorem foldl_some {o p : Tab} : ∀ (l : List Str) (b : Str), ∃ x, l.foldl (stepT o p) (some b) = some x
  | [], b => ⟨b, rfl⟩
  | y :: l, b => by
    rw [List.foldl_cons]
    unfold stepT
    dsimp only
    split
    · exact foldl_some l y
    · exact foldl_some l b
theorem best_some {o : Tab} (w : Own o) (p : Tab) : ∃ x, (ks o).foldl (stepT o p) none = some x ∧ x ∈ tkeys o := by
  obtain ⟨y, hy, _⟩ := w.pos
  have hk := ks_mem.mpr hy
  cases hks : ks o with
  | nil => rw [hks] at hk; cases hk
  | cons z l =>
    obtain ⟨x, hx⟩ := foldl_some (o := o) (p := p) l z
    have hx' : (z :: l).foldl (stepT o p) none = some x := hx
    refine ⟨x, hx', ?_⟩
    rcases foldl_mem _ _ _ hx' with h | h
    · exact ks_mem.mp (by rw [hks]; exact h)
    · cases h
theorem deal_prt {o : Tab} (w : Own o) : ∀ n, tkeys (dealS o n).1 = tkeys o ∧ (∀ x ∈ tkeys o, 0 ≤ tget (dealS o n).1 x ∧ tget (dealS o n).1 x ≤ n) ∧ (dealS o n).2.length = n
  | 0 => ⟨tkeys_map _ _, fun x hx => by
      show 0 ≤ tget ((tkeys o).map fun x => (x, 0)) x ∧ tget ((tkeys o).map fun x => (x, 0)) x ≤ 0
      rw [tget_map hx]; omega, rfl⟩
  | n + 1 => by
    obtain ⟨h1, h2, h3⟩ := deal_prt w n
    obtain ⟨b, hb, hm⟩ := best_some w (dealS o n).1
    have e : dealS o (n + 1) = (put (dealS o n).1 b (tget (dealS o n).1 b + 1), (dealS o n).2 ++ [b]) := by
      show (match (ks o).foldl (stepT o (dealS o n).1) none with
        | some b => (put (dealS o n).1 b (tget (dealS o n).1 b + 1), (dealS o n).2 ++ [b])
        | none => dealS o n) = _
      rw [hb]
    rw [e]
    refine ⟨by rw [put_keys (by rw [h1]; exact hm), h1], fun x hx => ?_, by rw [List.length_append, h3]; rfl⟩
    rw [tget_put]
    have := h2 x hx
    have := h2 b hm
    split <;> omega
theorem deal_step {o : Tab} (w : Own o) (n : Nat) : ∃ b ∈ tkeys o, (ks o).foldl (stepT o (dealS o n).1) none = some b ∧ dealS o (n + 1) = (put (dealS o n).1 b (tget (dealS o n).1 b + 1), (dealS o n).2 ++ [b]) := by
  obtain ⟨b, hb, hm⟩ := best_some w (dealS o n).1
  refine ⟨b, hm, hb, ?_⟩
  show (match (ks o).foldl (stepT o (dealS o n).1) none with
    | some b => (put (dealS o n).1 b (tget (dealS o n).1 b + 1), (dealS o n).2 ++ [b])
    | none => dealS o n) = _
  rw [hb]
theorem tab_len {o p : Tab} (h : tkeys p = tkeys o) : p.length = o.length := by rw [← tkeys_len, h, tkeys_len]
/-- one turn -/
def turnB (n : Nat) : M Flw := sq (nxt (bnd (bnd (argsM [aV (share 0), aL 3]) fun as => cCall (callF P (n + 1)) "next_by_turn" as) fun v => store [] 5 v))
  (sq (nxt (bnd (slotO 3) fun _ => cAugS 3 .Add (slotO 5) (ret (0, .int 1)))) (sq (dp (bnd (isKind PyData.isList (.s 4)) fun _ => bnd (share 5) fun v => mAppend 4 v)) (ret .nx)))
theorem turn_ok (n m : Nat) (x a : Int) (o : Tab) (s5 : PD.Slot) (hs5 : Sf s5) (h : o.length ≤ 1000) (w : Own o) (hm : m ≤ 1000) : wp (turnB n) [.val 0 (.dict (kv o)), .val 0 (.int a), .val 0 (.int x), .val 1 (.dict (kv (dealS o m).1)), .val 1 (.list ((dealS o m).2.map PyData.str)), s5]
    (fun f ρ => f = .nx ∧ ∃ b, ρ = [.val 0 (.dict (kv o)), .val 0 (.int a), .val 0 (.int x), .val 1 (.dict (kv (dealS o (m + 1)).1)), .val 1 (.list ((dealS o (m + 1)).2.map PyData.str)), .val 0 (.str b)]) := by
  have hl2 : o.length < sizeLine := small_lt (Nat.lt_of_le_of_lt h (by decide))
  obtain ⟨k1, k2, k3⟩ := deal_prt w m
  obtain ⟨b, hb, hf, he⟩ := deal_step w m
  have pl := tab_len k1
  have q : Prt o (dealS o m).1 := ⟨k1, fun x hx => by have := k2 x hx; omega⟩
  have pb : b ∈ tkeys (dealS o m).1 := k1 ▸ hb
  unfold turnB
  refine wp_seq (ρ1 := [.val 0 (.dict (kv o)), .val 0 (.int a), .val 0 (.int x), .val 1 (.dict (kv (dealS o m).1)), .val 1 (.list ((dealS o m).2.map PyData.str)), .val 0 (.str b)]) ?_ ?_
  · have nx := next_ok n 1 o (dealS o m).1 h w q
    rw [hf] at nx
    rcases hs5 with rfl | ⟨k, d, rfl⟩ <;> simp [nx]
  refine wp_seq (ρ1 := [.val 0 (.dict (kv o)), .val 0 (.int a), .val 0 (.int x), .val 1 (.dict (kv (dealS o (m + 1)).1)), .val 1 (.list ((dealS o m).2.map PyData.str)), .val 0 (.str b)]) ?_ ?_
  · rw [he]
    simp [itemN_kv pb, aug_add, keyOk_kv, pl, hl2, setKid, dput_kv]
  · rw [he]
    have l3 : (dealS o m).2.length < sizeLine := small_lt (by omega)
    simp [PyData.isList, l3, setKid]
theorem turns_in_ok (n : Nat) (o : Tab) (a : Int) (m : Nat) (hm : a = (m : Int)) (h : o.length ≤ 1000) (w : Own o) (ha : m ≤ 1000) : callF P (n + 2) "turns_in" [.val 0 (.dict (kv o)), .val 0 (.int a)] = some (.ok (2, .tuple [.dict (kv (dealS o m).1), .list ((dealS o m).2.map PyData.str)]) [.dead, .dead]) := by
  rw [e_turns_in]
  apply outF_eq
  unfold z_turns_in
  have hl : o.length ≤ sizeLine := small_ok (Nat.le_trans h (by decide))
  refine wp_seq (ρ1 := [.val 0 (.dict (kv o)), .val 0 (.int a), .dead, .val 1 (.dict (kv (dealS o 0).1)), .val 1 (.list []), .dead]) ?_ ?_
  · simp [items_kv]
    refine wp_compT PyData.str (fun x => [(PyData.str x, ((0 : Nat), PyData.int 0))]) rfl _ (fun x hx => ?_) ?_
    · simp
    · simp [hl, keyLeaf, dealS]
      exact ⟨lev_map (fun _ => PyData.int 0) _ fun _ _ => rfl, merge_map _ (fun _ => 0) w.nd⟩
  rw [wp_sq]
  refine wp_forR (a := 0) (b := a) (m := m) (c := fun n => PyData.int (Int.ofNat n)) (ρ1 := [.val 0 (.dict (kv o)), .val 0 (.int a), .dead, .val 1 (.dict (kv (dealS o 0).1)), .val 1 (.list []), .dead]) (ρ2 := [.val 0 (.dict (kv o)), .val 0 (.int a), .dead, .val 1 (.dict (kv (dealS o 0).1)), .val 1 (.list []), .dead]) (by simp) ?_ (by omega) (by omega) (by omega) (fun n => by simp)
    (fun pre ρ => ∃ s2 s5, Sf s2 ∧ Sf s5 ∧ ρ = [.val 0 (.dict (kv o)), .val 0 (.int a), s2, .val 1 (.dict (kv (dealS o pre.length).1)), .val 1 (.list ((dealS o pre.length).2.map PyData.str)), s5]) ⟨_, _, .inl rfl, .inl rfl, rfl⟩ ?_ ?_
  · simp
  · rintro pre x post ρ e hx hlen ⟨s2, s5, hs2, hs5, er⟩
    subst er
    generalize Int.ofNat x = X
    have st2 : wp (store [] 2 (0, PyData.int X)) [.val 0 (.dict (kv o)), .val 0 (.int a), s2, .val 1 (.dict (kv (dealS o pre.length).1)), .val 1 (.list ((dealS o pre.length).2.map PyData.str)), s5] (fun _ ρ' => ρ' = [.val 0 (.dict (kv o)), .val 0 (.int a), .val 0 (.int X), .val 1 (.dict (kv (dealS o pre.length).1)), .val 1 (.list ((dealS o pre.length).2.map PyData.str)), s5]) := by
      rcases hs2 with rfl | ⟨k, d, rfl⟩ <;> simp
    refine wp_mono st2 fun _ ρ' e' => ?_
    subst e'
    refine wp_mono (turn_ok n pre.length X a o s5 hs5 h w (by omega)) fun f ρ2 ⟨ef, b, er⟩ => ?_
    subst ef er
    exact ⟨_, _, .inr ⟨_, _, rfl⟩, .inr ⟨_, _, rfl⟩, by rw [List.length_append]; rfl⟩
  · rintro ρ ⟨s2, s5, hs2, hs5, er⟩
    subst er
    rw [List.length_range]
    simp [lev, minLev]
end K88
end
section
namespace K88
open PySem PD
theorem parted_ok (n : Nat) (o : Tab) (a : Int) (m : Nat) (hm : a = (m : Int)) (h : o.length ≤ 1000) (w : Own o) (ha : m ≤ 1000) : callF P (n + 6) "parted_by_turns" [.val 0 (.dict (kv o)), .val 0 (.int a)] = some (.ok (1, .dict (kv (dealS o m).1)) [.dead, .dead]) := by
  rw [e_parted_by_turns]
  apply outF_eq
  unfold z_parted_by_turns
  refine wp_seq (ρ1 := [.val 0 (.dict (kv o)), .val 0 (.int a)]) ?_ ?_
  · simp [check_owners_sum_ok n 0 0 o a h w (by omega)]
  · simp [turns_in_ok (n + 3) o a m hm h w ha, itemOf, atD]
theorem dealt_ok (n : Nat) (o : Tab) (a : Int) (m : Nat) (hm : a = (m : Int)) (h : o.length ≤ 1000) (w : Own o) (ha : m ≤ 1000) : callF P (n + 6) "dealt_row" [.val 0 (.dict (kv o)), .val 0 (.int a)] = some (.ok (1, .list ((dealS o m).2.map PyData.str)) [.dead, .dead]) := by
  rw [e_dealt_row]
  apply outF_eq
  unfold z_dealt_row
  refine wp_seq (ρ1 := [.val 0 (.dict (kv o)), .val 0 (.int a)]) ?_ ?_
  · simp [check_owners_sum_ok n 0 0 o a h w (by omega)]
  · simp [turns_in_ok (n + 3) o a m hm h w ha, itemOf, atD]
/-- who falls at a sum -/
def fallA (o : Tab) (a : Int) : List PyData := ((ks o).filter fun x => decide (brF o a x < brF o (a - 1) x)).map fun x => .tuple [.int a, .str x]
def fallS (o : Tab) : Nat → List PyData
  | 0 => []
  | m + 1 => fallS o m ++ fallA o (m + 1 : Nat)
theorem add_list {xs ys : List PyData} (h : xs.length + ys.length ≤ 1000000) : addOp (.list xs) (.list ys) = some (1, .list (xs ++ ys)) := if_pos (small_ok h)
theorem fallA_len (o : Tab) (a : Int) : (fallA o a).length ≤ o.length := by
  unfold fallA
  rw [List.length_map]
  refine Nat.le_trans (List.length_filter_le _ _) ?_
  rw [(ks_perm o).length_eq, tkeys_len]
  exact Nat.le_refl _
theorem fallS_len (o : Tab) : ∀ m, (fallS o m).length ≤ m * o.length
  | 0 => by simp [fallS]
  | m + 1 => by
    unfold fallS
    rw [List.length_append]
    have := fallS_len o m
    have := fallA_len o (m + 1 : Nat)
    rw [Nat.add_mul]
    omega
theorem br_keys (o : Tab) (a : Int) : tkeys (br o a) = tkeys o := tkeys_map _ _
theorem br_get {o : Tab} {a : Int} {x : Str} (h : x ∈ tkeys o) : tget (br o a) x = brF o a x := tget_map h
/-- the comprehension of those who fall -/
theorem flat_filter {γ δ : Type} (p : γ → Bool) (f : γ → δ) : ∀ l : List γ, (l.flatMap fun x => if p x = true then [f x] else []) = (l.filter p).map f
  | [] => rfl
  | x :: l => by
    rw [List.flatMap_cons, flat_filter p f l]
    cases h : p x with
    | true => rw [List.filter_cons_of_pos h]; simp
    | false => rw [List.filter_cons_of_neg (by rw [h]; decide)]; simp
def fallB (n : Nat) : M Flw := sq (nxt (bnd (bnd (argsM [aV (share 0), aV (share 2)]) fun as => cCall (callF P (n + 3)) "by_rests" as) fun v => store [] 5 v))
    (sq (nxt (bnd (cAdd (slotO 3) (tmp (cLc (walkO false (tmp (cMake "sorted" (slotO 0)))) [6] (fun x => store [] 6 (0, x)) (tst (cCmp .Lt (tmp (cItem (slotO 5) (slotO 6))) (tmp (cItem (slotO 4) (slotO 6))))) (cTuple (evsM [share 2, share 6]))))) fun v => store [] 3 v))
    (sq (nxt (bnd (share 5) fun v => store [] 4 v))
    (ret .nx)))
theorem fall_turn (n m k4 : Nat) (o : Tab) (a c : Int) (s5 : PD.Slot) (ha : a = ((m + 1 : Nat) : Int)) (hs5 : Sf s5) (h : o.length ≤ 8) (w : Own o) (hm : m + 1 ≤ 1000) :
    wp (fallB n) [.val 0 (.dict (kv o)), .val 0 (.int c), .val 0 (.int a), .val 1 (.list (fallS o m)), .val k4 (.dict (kv (br o (a - 1)))), s5, .dead]
      (fun f ρ => f = .nx ∧ ∃ s4 s5, Sf s5 ∧ ρ = [.val 0 (.dict (kv o)), .val 0 (.int c), .val 0 (.int a), .val 1 (.list (fallS o (m + 1))), .val s4 (.dict (kv (br o a))), s5, .dead]) := by
  unfold fallB
  refine wp_seq (ρ1 := [.val 0 (.dict (kv o)), .val 0 (.int c), .val 0 (.int a), .val 1 (.list (fallS o m)), .val k4 (.dict (kv (br o (a - 1)))), .val 1 (.dict (kv (br o a))), .dead]) ?_ ?_
  · have e := by_rests_ok n o a (by omega) w (by omega)
    rcases hs5 with rfl | ⟨k, d, rfl⟩ <;> simp [e]
  refine wp_seq (ρ1 := [.val 0 (.dict (kv o)), .val 0 (.int c), .val 0 (.int a), .val 1 (.list (fallS o (m + 1))), .val k4 (.dict (kv (br o (a - 1)))), .val 1 (.dict (kv (br o a))), .dead]) ?_ ?_
  · simp [sorted_kv o (by omega), items_list]
    refine wp_compT PyData.str (fun x => if decide (brF o a x < brF o (a - 1) x) = true then [(1, PyData.tuple [.int a, .str x])] else []) rfl _ (fun x hx => ?_) ?_
    · have hx := ks_mem.mp hx
      have h1 : x ∈ tkeys (br o a) := br_keys o a ▸ hx
      have h2 : x ∈ tkeys (br o (a - 1)) := br_keys o (a - 1) ▸ hx
      simp [item_kv h1, item_kv h2, br_get hx]
    · have el : (((ks o).filter fun x => decide (brF o a x < brF o (a - 1) x)).map fun x => ((1 : Nat), PyData.tuple [.int a, .str x])).map (·.2) = fallA o a := by
        rw [List.map_map]
        rfl
      have l1 := fallS_len o m
      have l2 := fallA_len o a
      have l3 : m * o.length ≤ 1000 * 8 := Nat.mul_le_mul (by omega) h
      have l4 : ((ks o).filter fun x => decide (brF o a x < brF o (a - 1) x)).length ≤ sizeLine := by
        have : (fallA o a).length = ((ks o).filter fun x => decide (brF o a x < brF o (a - 1) x)).length := by unfold fallA; rw [List.length_map]
        exact small_ok (by omega)
      have ef : fallS o m ++ fallA o a = fallS o (m + 1) := by rw [ha]; rfl
      rw [flat_filter]
      rw [if_pos (by rw [List.length_map]; exact l4)]
      rw [el]
      simp [add_list (xs := fallS o m) (ys := fallA o a) (by omega), ef]
  · simp
    exact .inr ⟨_, _, rfl⟩
theorem check_own (n : Nat) (o : Tab) (h : o.length ≤ 1000) (w : Own o) : callF P (n + 4) "check_owners" [.val 0 (.dict (kv o))] = some (.ok (0, .none) [.dead]) := check_owners_ok n 0 o h w
theorem falling_ok (n : Nat) (o : Tab) (c : Int) (m : Nat) (hm : c = (m : Int)) (h : o.length ≤ 8) (w : Own o) (ha : m ≤ 900) : callF P (n + 5) "falling_sums" [.val 0 (.dict (kv o)), .val 0 (.int c)] = some (.ok (1, .list (fallS o m)) [.dead, .dead]) := by
  rw [e_falling_sums]
  apply outF_eq
  unfold z_falling_sums
  have h0 : ((0 : Nat) : Int) = 0 := rfl
  refine wp_seq (ρ1 := [.val 0 (.dict (kv o)), .val 0 (.int c), .dead, .dead, .dead, .dead, .dead]) ?_ (wp_seq (ρ1 := [.val 0 (.dict (kv o)), .val 0 (.int c), .dead, .dead, .dead, .dead, .dead]) ?_ (wp_seq (ρ1 := [.val 0 (.dict (kv o)), .val 0 (.int c), .dead, .val 1 (.list []), .val 1 (.dict (kv (br o 0))), .dead, .dead]) ?_ ?_))
  · simp [check_own n o (by omega) w]
  · have : ¬ c < 0 := by omega
    simp [is_count_int, this]
  · simp [by_rests_ok (n + 1) o 0 (by omega) w (by omega), lev, minLev]
  rw [wp_sq]
  refine wp_forR (a := 1) (b := c + 1) (m := m) (c := fun n => PyData.int (1 + Int.ofNat n)) (ρ1 := [.val 0 (.dict (kv o)), .val 0 (.int c), .dead, .val 1 (.list []), .val 1 (.dict (kv (br o 0))), .dead, .dead]) (ρ2 := [.val 0 (.dict (kv o)), .val 0 (.int c), .dead, .val 1 (.list []), .val 1 (.dict (kv (br o 0))), .dead, .dead]) (by simp) ?_ (by omega) (by omega) (by omega) (fun n => rfl)
    (fun pre ρ => ∃ s2 s4 s5 A, A = Int.ofNat pre.length ∧ Sf s2 ∧ Sf s5 ∧ ρ = [.val 0 (.dict (kv o)), .val 0 (.int c), s2, .val 1 (.list (fallS o pre.length)), .val s4 (.dict (kv (br o A))), s5, .dead]) ⟨_, _, _, 0, rfl, .inl rfl, .inl rfl, rfl⟩ ?_ ?_
  · simp
  · rintro pre x post ρ e hx hlen ⟨s2, s4, s5, A, hA, hs2, hs5, er⟩
    subst er
    generalize hX : 1 + Int.ofNat x = X
    have eA : A = X - 1 := by rw [hA, ← hX, hx]; omega
    have eX : X = ((pre.length + 1 : Nat) : Int) := by rw [← hX, hx]; simp; omega
    subst eA
    have st2 : wp (store [] 2 (0, PyData.int X)) [.val 0 (.dict (kv o)), .val 0 (.int c), s2, .val 1 (.list (fallS o pre.length)), .val s4 (.dict (kv (br o (X - 1)))), s5, .dead] (fun _ ρ' => ρ' = [.val 0 (.dict (kv o)), .val 0 (.int c), .val 0 (.int X), .val 1 (.list (fallS o pre.length)), .val s4 (.dict (kv (br o (X - 1)))), s5, .dead]) := by
      rcases hs2 with rfl | ⟨k, d, rfl⟩ <;> simp
    refine wp_mono st2 fun _ ρ' e' => ?_
    subst e'
    refine wp_mono (fall_turn (n + 1) pre.length s4 o X c s5 eX hs5 h w (by omega)) fun f ρ2 ⟨ef, k, s, hs, er⟩ => ?_
    subst ef er
    exact ⟨_, _, _, X, by rw [List.length_append, eX]; rfl, .inr ⟨_, _, rfl⟩, hs, by rw [List.length_append]; rfl⟩
  · rintro ρ ⟨s2, s4, s5, A, hA, hs2, hs5, er⟩
    subst er
    rw [List.length_range]
    simp
end K88
end
section
namespace K88
open PySem PD
theorem sum_kids (o : Tab) (s0 s1 s2 s3 s4 s5 s6 : Slot) (i : Nat) (hi : i = 0) (h : s0 = .val 0 (.dict (kv o))) (Q : List Vl → Sts → Prop) (hQ : Q ((tkeys o).map fun x => (0, PyData.int (tget o x))) [s0, s1, s2, s3, s4, s5, s6, .dead]) : wp (compM [7] (fun x => bnd (store [] 7 (0, x)) fun x => bnd (ret true) fun b => if b = true then bnd (cItem (slotO i) (slotO 7)) fun v => ret [v] else ret []) ((tkeys o).map PyData.str)) [s0, s1, s2, s3, s4, s5, s6, .dead] Q := by
  subst hi h
  refine wp_compT PyData.str (fun x => [(0, PyData.int (tget o x))]) rfl _ (fun x hx => ?_) ?_
  · simp [item_kv hx]
  · rw [flatMap_one]
    exact hQ
theorem rests_1 (o : Tab) (a : Int) (h : o.length ≤ 1000) (Q : Flw → Sts → Prop) (hQ : Q .nx [.val 0 (.dict (kv o)), .val 0 (.int a), .val 0 (.int (sumT o)), .dead, .dead, .dead, .dead, .dead]) : wp (nxt (bnd (cLook "sum" (tmp (cLc (walkO false (slotO 0)) [7] (fun x => (store [] 7 (0, x))) (ret true) (cItem (slotO 0) (slotO 7))))) fun v => (store [] 2 v))) [.val 0 (.dict (kv o)), .val 0 (.int a), .dead, .dead, .dead, .dead, .dead, .dead] Q := by
  have hl : o.length ≤ sizeLine := small_ok (Nat.le_trans h (by decide))
  simp [items_kv]
  refine sum_kids o _ _ _ _ _ _ _ 0 rfl rfl _ ?_
  simp [bi1_sum, Function.comp_def, allInts_map', hl]
  exact hQ
theorem rests_3 (o : Tab) (a : Int) (F : PyData) (h : o.length ≤ 1000) (w : Own o) (ha : 0 ≤ a ∧ a ≤ 1000) (Q : Flw → Sts → Prop) (hQ : Q .nx [.val 0 (.dict (kv o)), .val 0 (.int a), .val 0 (.int (sumT o)), .val 1 F, .val 1 (.list (sortD (told o a))), .dead, .dead, .dead]) : wp (nxt (bnd (cMake "sorted" (tmp (cLc (walkO false (slotO 0)) [7] (fun x => (store [] 7 (0, x))) (ret true) (cTuple (evsM [(cNum .Sub (tmp (ret (0, (.int 0)))) (tmp (cNum .Mod (tmp (cNum .Mult (slotO 1) (tmp (cItem (slotO 0) (slotO 7))))) (slotO 2)))), (share 7)]))))) fun v => (store [] 4 v))) [.val 0 (.dict (kv o)), .val 0 (.int a), .val 0 (.int (sumT o)), .val 1 F, .dead, .dead, .dead, .dead] Q := by
  have hl : o.length ≤ sizeLine := small_ok (Nat.le_trans h (by decide))
  have so : sortOk (told o a) = true := sortOk_pairs _ _ _ (by rw [tkeys_len]; omega)
  simp [items_kv]
  refine wp_compT PyData.str (fun x => [(1, PyData.tuple [.int (rst o a x), .str x])]) rfl _ (fun x hx => ?_) ?_
  · have := w.ge x hx
    simp [item_kv hx, num_mul (mul_small (a := a) (b := tget o x) (by omega) (by omega)), num_mod (sumT_pos w), rst]
  · have e : (tkeys o).map (fun x => PyData.tuple [.int (rst o a x), .str x]) = told o a := rfl
    simp [hl, Function.comp_def, bk1_sorted_list, e, so]
    exact hQ
def flT (o : Tab) (a : Int) : Tab := (tkeys o).map fun x => (x, a * tget o x / sumT o)
theorem rests_2 (o : Tab) (a : Int) (h : o.length ≤ 1000) (w : Own o) (ha : 0 ≤ a ∧ a ≤ 1000) (Q : Flw → Sts → Prop) (hQ : Q .nx [.val 0 (.dict (kv o)), .val 0 (.int a), .val 0 (.int (sumT o)), .val 1 (.dict (kv (flT o a))), .dead, .dead, .dead, .dead]) : wp (nxt (bnd (cMake "dict" (tmp (cLc (walkO false (slotO 0)) [7] (fun x => (store [] 7 (0, x))) (ret true) (cTuple (evsM [(share 7), (cNum .FloorDiv (tmp (cNum .Mult (slotO 1) (tmp (cItem (slotO 0) (slotO 7))))) (slotO 2))]))))) fun v => (store [] 3 v))) [.val 0 (.dict (kv o)), .val 0 (.int a), .val 0 (.int (sumT o)), .dead, .dead, .dead, .dead, .dead] Q := by
  have hl : o.length ≤ sizeLine := small_ok (Nat.le_trans h (by decide))
  have hp := sumT_pos w
  have hs := sumT_le w h
  have hal : allPairs ((tkeys o).map fun x => PyData.tuple [.str x, .int (a * tget o x / sumT o)]) = some (kv (flT o a)) := by
    unfold flT kv
    generalize tkeys o = l
    induction l with
    | nil => rfl
    | cons x l ih =>
      rw [List.map_cons, List.map_cons, List.map_cons]
      unfold allPairs
      rw [ih]
  have hm : mergeD [] (kv (flT o a)) = kv (flT o a) := by
    have := merge_kv (flT o a) (by
      have e : tkeys (flT o a) = tkeys o := by
        unfold flT
        show ((tkeys o).map _).map _ = _
        rw [List.map_map]
        exact List.map_id _
      rw [e]
      exact w.nd)
    exact this
  simp [items_kv]
  refine wp_compT PyData.str (fun x => [(1, PyData.tuple [.str x, .int (a * tget o x / sumT o)])]) rfl _ (fun x hx => ?_) ?_
  · have := w.ge x hx
    simp [item_kv hx, num_mul (mul_small (a := a) (b := tget o x) (by omega) (by omega)), num_div (i := a * tget o x) ⟨hp, log_small ⟨hp, by omega⟩⟩]
  · simp [hl, Function.comp_def, bk1_dict_list, hal, allLeaf_kv, hm]
    exact hQ
end K88
end
section
namespace K88
open PySem PD
theorem flT_keys (o : Tab) (a : Int) : tkeys (flT o a) = tkeys o := tkeys_map _ _
theorem flT_get {o : Tab} {a : Int} {x : Str} (h : x ∈ tkeys o) : tget (flT o a) x = a * tget o x / sumT o := tget_map h
theorem rests_4 (o : Tab) (a : Int) (h : o.length ≤ 1000) (L : List PyData) (Q : Flw → Sts → Prop) (hQ : Q .nx [.val 0 (.dict (kv o)), .val 0 (.int a), .val 0 (.int (sumT o)), .val 1 (.dict (kv (flT o a))), .val 1 (.list L), .val 0 (.int (lo o a)), .dead, .dead]) : wp (nxt (bnd (cNum .Sub (slotO 1) (tmp (cLook "sum" (tmp (cLc (walkO true (slotO 3)) [7] (fun x => (store [] 7 (0, x))) (ret true) (cItem (slotO 3) (slotO 7))))))) fun v => (store [] 5 v))) [.val 0 (.dict (kv o)), .val 0 (.int a), .val 0 (.int (sumT o)), .val 1 (.dict (kv (flT o a))), .val 1 (.list L), .dead, .dead, .dead] Q := by
  have hl : o.length ≤ sizeLine := small_ok (Nat.le_trans h (by decide))
  simp [items_kv]
  refine wp_compT PyData.str (fun x => [(0, PyData.int (tget (flT o a) x))]) rfl _ (fun x hx => ?_) ?_
  · simp [item_kv hx]
  · have e : (tkeys (flT o a)).map (tget (flT o a)) = (tkeys o).map fun x => a * tget o x / sumT o := by
      rw [flT_keys]
      exact List.map_congr_left fun x hx => flT_get hx
    have e2 : (flT o a).length = o.length := by rw [← tkeys_len, flT_keys, tkeys_len]
    simp [bi1_sum, Function.comp_def, allInts_map', e2, hl]
    have e3 : a - ((tkeys (flT o a)).map (tget (flT o a))).sum = lo o a := by rw [e]; rfl
    first
      | (rw [e3]; exact hQ)
      | (simp only [Function.comp_def] at *; rw [e3]; exact hQ)
def plus (t : Tab) (l : List Str) : Tab := l.foldl (fun t x => put t x (tget t x + 1)) t
theorem plus_keys : ∀ (l : List Str) (t : Tab), (∀ x ∈ l, x ∈ tkeys t) → tkeys (plus t l) = tkeys t
  | [], t, _ => rfl
  | x :: l, t, h => by
    have e : tkeys (put t x (tget t x + 1)) = tkeys t := put_keys (h x (List.mem_cons_self ..))
    show tkeys (plus (put t x (tget t x + 1)) l) = _
    rw [plus_keys l _ fun y hy => e ▸ h y (List.mem_cons_of_mem _ hy), e]
theorem plus_get (y : Str) : ∀ (l : List Str) (t : Tab), l.Nodup → tget (plus t l) y = tget t y + if y ∈ l then 1 else 0
  | [], t, _ => by show tget t y = _; simp
  | x :: l, t, nd => by
    show tget (plus (put t x (tget t x + 1)) l) y = _
    have nd' := List.nodup_cons.mp nd
    rw [plus_get y l _ nd'.2, tget_put]
    by_cases e : x = y
    · subst e
      rw [if_pos rfl, if_neg nd'.1, if_pos (List.mem_cons_self ..)]
      omega
    · rw [if_neg e]
      have : (y ∈ x :: l) = (y ∈ l) := propext ⟨fun h => (List.mem_cons.mp h).resolve_left fun z => e z.symm, List.mem_cons_of_mem _⟩
      simp only [this]
theorem plus_app (t : Tab) (l : List Str) (x : Str) : plus t (l ++ [x]) = put (plus t l) x (tget (plus t l) x + 1) := by
  unfold plus
  rw [List.foldl_append]
  rfl
theorem mores_nd {o : Tab} (w : Own o) (a : Int) : (mores o a).Nodup := cut_nodup _ _ ((ordN_perm o a).nodup_iff.mpr w.nd)
theorem mores_mem {o : Tab} {a : Int} {x : Str} (h : x ∈ mores o a) : x ∈ tkeys o := (ordN_perm o a).mem_iff.mp (cut_sub h)
theorem plus_br {o : Tab} (w : Own o) (a : Int) : plus (flT o a) (mores o a) = br o a := by
  have hk : tkeys (plus (flT o a) (mores o a)) = tkeys o := by
    rw [plus_keys _ _ fun x hx => by rw [flT_keys]; exact mores_mem hx, flT_keys]
  rw [kv_of (plus (flT o a) (mores o a)) (by rw [hk]; exact w.nd), hk]
  unfold br
  refine List.map_congr_left fun x hx => ?_
  rw [plus_get x _ _ (mores_nd w a), flT_get hx]
  rfl
theorem rests_ok (n : Nat) (o : Tab) (a : Int) (h : o.length ≤ 1000) (w : Own o) (ha : 0 ≤ a ∧ a ≤ 1000) : callF P (n + 1) "_law_rests" [.val 0 (.dict (kv o)), .val 0 (.int a)] = some (.ok (1, .dict (kv (br o a))) [.dead, .dead]) := by
  rw [e_law_rests]
  apply outF_eq
  unfold z_law_rests
  have hl : o.length ≤ sizeLine := small_ok (Nat.le_trans h (by decide))
  have hl2 : o.length < sizeLine := small_lt (Nat.lt_of_le_of_lt h (by decide))
  rw [wp_sq]
  refine rests_1 o a h _ ?_
  show wp (sq _ _) _ _
  rw [wp_sq]
  refine rests_2 o a h w ha _ ?_
  show wp (sq _ _) _ _
  rw [wp_sq]
  refine rests_3 o a _ h w ha _ ?_
  show wp (sq _ _) _ _
  rw [wp_sq]
  refine rests_4 o a h _ _ ?_
  show wp (sq _ _) _ _
  have e2 : cutD (sortD (told o a)) none (some (lo o a)) = (mores o a).map fun x => .tuple [.int (rst o a x), .str x] := by
    rw [ordN_told, cut_map]
    rfl
  rw [wp_sq]
  simp [sliceOf, e2, items_list]
  refine wp_forT (fun x => PyData.tuple [.int (rst o a x), .str x]) (mores o a) (fun pre ρ => ∃ s6 s7, Sf s6 ∧ Sf s7 ∧ ρ = [.val 0 (.dict (kv o)), .val 0 (.int a), .val 0 (.int (sumT o)), .val 1 (.dict (kv (plus (flT o a) pre))), .val 1 (.list (sortD (told o a))), .val 0 (.int (lo o a)), s6, s7]) ⟨_, _, .inl rfl, .inl rfl, rfl⟩ ?_ ?_
  · rintro pre x post ρ e ⟨s6, s7, h6, h7, er⟩
    subst er
    have hm : ∀ y ∈ pre, y ∈ tkeys (flT o a) := fun y hy => by rw [flT_keys]; exact mores_mem (by rw [e]; exact List.mem_append_left _ hy)
    have hx : x ∈ tkeys o := mores_mem (by rw [e]; simp)
    have hk : tkeys (plus (flT o a) pre) = tkeys o := by rw [plus_keys _ _ hm, flT_keys]
    have hx2 : x ∈ tkeys (plus (flT o a) pre) := by rw [hk]; exact hx
    have hlen : (plus (flT o a) pre).length = o.length := by rw [← tkeys_len, hk, tkeys_len]
    have st : wp (untup (0, PyData.tuple [.int (rst o a x), .str x]) [fun v => (store [] 6 v), fun v => (store [] 7 v)]) [.val 0 (.dict (kv o)), .val 0 (.int a), .val 0 (.int (sumT o)), .val 1 (.dict (kv (plus (flT o a) pre))), .val 1 (.list (sortD (told o a))), .val 0 (.int (lo o a)), s6, s7] (fun _ ρ => ρ = [.val 0 (.dict (kv o)), .val 0 (.int a), .val 0 (.int (sumT o)), .val 1 (.dict (kv (plus (flT o a) pre))), .val 1 (.list (sortD (told o a))), .val 0 (.int (lo o a)), .val 0 (.int (rst o a x)), .val 0 (.str x)]) := by
      rcases h6 with rfl | ⟨k, d, rfl⟩ <;> rcases h7 with rfl | ⟨k', d', rfl⟩ <;> simp
    refine wp_mono st fun _ ρ' e' => ?_
    subst e'
    refine wp_seq (ρ1 := [.val 0 (.dict (kv o)), .val 0 (.int a), .val 0 (.int (sumT o)), .val 1 (.dict (kv (plus (flT o a) (pre ++ [x])))), .val 1 (.list (sortD (told o a))), .val 0 (.int (lo o a)), .val 0 (.int (rst o a x)), .val 0 (.str x)]) ?_ ?_
    · rw [plus_app]
      simp [item_kv hx2, keyOk_kv, hlen, hl2, setKid, dput_kv]
    · rw [wp_ret]
      exact ⟨_, _, .inr ⟨_, _, rfl⟩, .inr ⟨_, _, rfl⟩, rfl⟩
  · rintro ρ ⟨s6, s7, h6, h7, er⟩
    subst er
    simp [plus_br w]
end K88
end
section
namespace K88
open PySem PD
theorem mul_big {a b : Int} (ha : a.natAbs < 2 ^ 2000) (hb : b.natAbs < 2 ^ 2000) : mulOk a b = true := by
  unfold mulOk
  have key : ∀ z : Int, z.natAbs < 2 ^ 2000 → z.natAbs.log2 < 2001 := fun z hz => by
    by_cases q : z.natAbs = 0
    · rw [q]; decide
    · have := (Nat.log2_lt (n := z.natAbs) (k := 2000) q).mpr hz; omega
  have := key a ha
  have := key b hb
  exact decide_eq_true (by omega)
theorem sm {a : Int} (h : a.natAbs ≤ 10 ^ 18) : a.natAbs < 2 ^ 2000 := Nat.lt_of_le_of_lt h (by decide +kernel)
def h1F (s i : Int) : Int := (s * 1140671 + 27644437 * i * i + 131 * i + 19) % 2147483629
def h2F (s i : Int) : Int := (h1F s i * h1F s i + 62089 * i + 32416187) % 2147483587
def hashF (s i : Int) : Int := h2F s i * 48271 % 2147483647
theorem hash_rng (s i : Int) : 0 ≤ hashF s i ∧ hashF s i < 2147483647 := ⟨Int.emod_nonneg _ (by decide), Int.emod_lt_of_pos _ (by decide)⟩
theorem hash_ok (n : Nat) (s i : Int) (hs : 0 ≤ s ∧ s < 2147483647) (hi : 0 ≤ i ∧ i ≤ 1000000) : callF P (n + 1) "_law_hash" [.val 0 (.int s), .val 0 (.int i)] = some (.ok (0, .int (hashF s i)) [.dead, .dead]) := by
  rw [e_law_hash]
  apply outF_eq
  unfold z_law_hash
  have m1 : mulOk s 1140671 = true := mul_big (sm (by omega)) (sm (by decide))
  have m2 : mulOk 27644437 i = true := mul_big (sm (by decide)) (sm (by omega))
  have m3 : mulOk (27644437 * i) i = true := mul_big (sm (by omega)) (sm (by omega))
  have m4 : mulOk 131 i = true := mul_big (sm (by decide)) (sm (by omega))
  have b1 : 0 ≤ h1F s i ∧ h1F s i < 2147483629 := ⟨Int.emod_nonneg _ (by decide), Int.emod_lt_of_pos _ (by decide)⟩
  have m5 : mulOk (h1F s i) (h1F s i) = true := mul_big (sm (by omega)) (sm (by omega))
  have m6 : mulOk 62089 i = true := mul_big (sm (by decide)) (sm (by omega))
  have b2 : 0 ≤ h2F s i ∧ h2F s i < 2147483587 := ⟨Int.emod_nonneg _ (by decide), Int.emod_lt_of_pos _ (by decide)⟩
  have m7 : mulOk (h2F s i) 48271 = true := mul_big (sm (by omega)) (sm (by decide))
  refine wp_seq (ρ1 := [.val 0 (.int s), .val 0 (.int i), .val 0 (.int (h1F s i))]) ?_ (wp_seq (ρ1 := [.val 0 (.int s), .val 0 (.int i), .val 0 (.int (h2F s i))]) ?_ ?_)
  · simp [num_mul m1, num_mul m2, num_mul m3, num_mul m4, bi1_int, num_mod, h1F]
  · simp [num_mul m5, num_mul m6, bi1_int, num_mod]
    rfl
  · simp [num_mul m7, bi1_int, num_mod, hashF]
/-- a generator: what is left of its seed, its hash's seed, its count -/
def big : Int := 10 ^ 600
def gen (a b c : Int) : PyData := .list [.int a, .int b, .int c]
structure GenOk (N : Nat) (g : PyData) : Prop where
  ex : ∃ a b c : Int, g = gen a b c ∧ 0 ≤ a ∧ a < big ∧ 0 ≤ b ∧ b < 2147483647 ∧ 0 ≤ c ∧ c ≤ N
theorem GenOk.mono {N M : Nat} {g : PyData} (h : GenOk N g) (le : N ≤ M) : GenOk M g := by
  obtain ⟨a, b, c, e, h1, h2, h3, h4, h5, h6⟩ := h.ex
  exact ⟨a, b, c, e, h1, h2, h3, h4, h5, by omega⟩
theorem bits_ok {b : Int} (h : 1 ≤ b ∧ b ≤ 1000) : bitsOf b / 30 = 0 := by
  unfold bitsOf Builtin.Int.intBits
  have hb : (b == 0) = false := by
    cases e : (b == 0) with
    | false => rfl
    | true => have := eq_of_beq e; omega
  rw [hb]
  have hl : b.natAbs.log2 < 10 := (Nat.log2_lt (by omega)).mpr (by omega)
  simp
  omega
def rndB (n : Nat) : M Flw := sq (nxt (bnd (cAdd (tmp (cItem (slotO 0) (tmp (ret (0, (.int 2)))))) (tmp (ret (0, (.int 1))))) fun v => bnd (slotO 0) fun _ => bnd (tmp (ret (0, (.int 2)))) fun o => bnd (peek o) fun di => mSet 0 di v))
    (sq (nxt (bnd (cAdd (tmp (cNum .Mult (slotO 2) (tmp (ret (0, (.int 2147483587)))))) (tmp (bnd (argsM [aV (cItem (slotO 0) (tmp (ret (0, (.int 1))))), aV (cItem (slotO 0) (tmp (ret (0, (.int 2)))))]) fun as => cCall (callF P (n + 1)) "_law_hash" as))) fun v => (store [0] 2 v)))
    (ret .nx))
theorem rnd_turn (n : Nat) (t c b : Int) (h3 : 0 ≤ t ∧ t < 2147483647) (h5 : 0 ≤ c ∧ c ≤ 200000) : wp (rndB n) [.val 1 (gen 0 t c), .val 0 (.int b), .val 0 (.int 0), .val 0 (.int 0)] (fun f ρ => f = .nx ∧ ρ = [.val 1 (gen 0 t (c + 1)), .val 0 (.int b), .val 0 (.int (hashF t (c + 1))), .val 0 (.int 0)]) := by
  unfold rndB
  refine wp_seq (ρ1 := [.val 1 (gen 0 t (c + 1)), .val 0 (.int b), .val 0 (.int 0), .val 0 (.int 0)]) ?_ ?_
  · simp [itemOf, atD, gen, ixD, setKid]
  · have hh := hash_ok n t (c + 1) h3 (by omega)
    have m1 : mulOk 0 2147483587 = true := by decide
    simp [itemOf, atD, gen, num_mul m1, hh, prots]
theorem wp_for1 {tg : PyData → M Unit} {body : M Flw} {x : PyData} {ρ : Sts} {Q : Flw → Sts → Prop} (h : wp (tg x) ρ fun _ ρ1 => wp body ρ1 fun f ρ2 => f = .nx ∧ Q .nx ρ2) : wp (forM tg body [x]) ρ Q := by
  refine wp_forM [x] (fun i ρ' => if i = 0 then ρ' = ρ else Q .nx ρ') rfl (fun i y ρ' e hI => ?_) fun ρ' h => h
  cases i with
  | zero =>
    have hI : ρ' = ρ := hI
    subst hI
    cases e
    refine wp_mono h fun _ ρ1 h1 => wp_mono h1 fun f ρ2 ⟨e, q⟩ => ?_
    subst e
    exact q
  | succ i => simp at e
theorem range01 : rangeD 0 1 = [.int 0] := by rfl
theorem rnd_q4 (n : Nat) (t c b : Int) (Q : Walk → Sts → Prop) (G : Slot) (hb : 1 ≤ b ∧ b ≤ 1000) (h : wp (asInt (cAdd (tmp (ret (0, (.int 1)))) (tmp (cNum .FloorDiv (tmp (cMeth1 bitLen (slotO 1))) (tmp (ret (0, (.int 30)))))))) [G, .val 0 (.int b), .val 0 (.int 0), .dead] (fun j ρ1 => if (rangeB 0 && rangeB j) = true then Q ⟨rangeD 0 j, [], false⟩ ρ1 else False)) : wp (walkR (ret 0) (asInt (cAdd (tmp (ret (0, (.int 1)))) (tmp (cNum .FloorDiv (tmp (cMeth1 bitLen (slotO 1))) (tmp (ret (0, (.int 30))))))))) [G, .val 0 (.int b), .val 0 (.int 0), .dead] Q := by
  rw [wp_walkR, wp_ret]
  exact h
theorem rnd_q5 (b : Int) (Q : Int → Sts → Prop) (G : Slot) (hd : numAll .FloorDiv (.int (bitsOf b)) (.int 30) = some (0, .int (bitsOf b / 30))) (hb : 1 ≤ b ∧ b ≤ 1000) (h : Q 1 [G, .val 0 (.int b), .val 0 (.int 0), .dead]) : wp (asInt (cAdd (tmp (ret (0, (.int 1)))) (tmp (cNum .FloorDiv (tmp (cMeth1 bitLen (slotO 1))) (tmp (ret (0, (.int 30)))))))) [G, .val 0 (.int b), .val 0 (.int 0), .dead] Q := by
  rw [wp_asInt, wp_cAdd]
  simp only [wp_tmp, wp_ret, wp_cNum, wp_cMeth1, wp_slotO, wp_peek, rdS_val, List.getElem?_cons_zero, List.getElem?_cons_succ, rdO_val, wO_some, rsv_s, bitLen, wp_kids_t, hd, bits_ok hb, add_int, wp_asIntK, wIn_int]
  exact h
theorem rnd_loop (n : Nat) (t c b : Int) (hb : 1 ≤ b ∧ b ≤ 1000) (h3 : 0 ≤ t ∧ t < 2147483647) (h5 : 0 ≤ c ∧ c ≤ 200000) :
    wp (cFor (walkR (ret 0) (asInt (cAdd (tmp (ret (0, (.int 1)))) (tmp (cNum .FloorDiv (tmp (cMeth1 bitLen (slotO 1))) (tmp (ret (0, (.int 30))))))))) (fun x => (store [0] 3 (0, x))) (rndB n)) [.val 1 (gen 0 t c), .val 0 (.int b), .val 0 (.int 0), .dead]
      (fun f ρ => f = .nx ∧ ρ = [.val 1 (gen 0 t (c + 1)), .val 0 (.int b), .val 0 (.int (hashF t (c + 1))), .val 0 (.int 0)]) := by
  rw [wp_cFor]
  have hw : wp (walkR (ret 0) (asInt (cAdd (tmp (ret (0, (.int 1)))) (tmp (cNum .FloorDiv (tmp (cMeth1 bitLen (slotO 1))) (tmp (ret (0, (.int 30))))))))) [.val 1 (gen 0 t c), .val 0 (.int b), .val 0 (.int 0), .dead] (fun W ρ => W = ⟨[.int 0], [], false⟩ ∧ ρ = [.val 1 (gen 0 t c), .val 0 (.int b), .val 0 (.int 0), .dead]) := by
    have r0 : rangeB 0 = true := rangeB_ok' (by omega)
    have r1 : rangeB 1 = true := rangeB_ok' (by omega)
    have hd : numAll .FloorDiv (.int (bitsOf b)) (.int 30) = some (0, .int (bitsOf b / 30)) := num_div ⟨by omega, log_small (by omega)⟩
    refine rnd_q4 n t c b _ _ hb (rnd_q5 b _ _ hd hb ?_)
    rw [r0, r1, if_pos (by rfl), range01]
    exact ⟨rfl, rfl⟩
  generalize walkR (ret 0) (asInt (cAdd (tmp (ret (0, (.int 1)))) (tmp (cNum .FloorDiv (tmp (cMeth1 bitLen (slotO 1))) (tmp (ret (0, (.int 30)))))))) = W0 at hw ⊢
  refine wp_mono hw fun W ρ' e => ?_
  obtain ⟨e1, e2⟩ := e
  rw [e1, e2]
  refine wp_for1 ?_
  have st : wp (store [0] 3 (0, PyData.int 0)) [.val 1 (gen 0 t c), .val 0 (.int b), .val 0 (.int 0), .dead] (fun _ ρ => ρ = [.val 1 (gen 0 t c), .val 0 (.int b), .val 0 (.int 0), .val 0 (.int 0)]) := by
    simp [prots]
  refine wp_mono st fun _ ρ' e => ?_
  subst e
  exact wp_mono (rnd_turn n t c b h3 h5) fun f ρ2 ⟨e, q⟩ => ⟨e, by rw [wp_unwalk_nil]; exact ⟨rfl, q⟩⟩
theorem random_ok (n N : Nat) (g : PyData) (b : Int) (hg : GenOk N g) (hN : N ≤ 100000) (hb : 1 ≤ b ∧ b ≤ 1000) : ∃ r g', 0 ≤ r ∧ r < b ∧ GenOk (N + 1) g' ∧ callF P (n + 2) "_law_random" [.val 1 g, .val 0 (.int b)] = some (.ok (0, .int r) [.val 1 g', .dead]) := by
  obtain ⟨s, t, c, rfl, h1, h2, h3, h4, h5, h6⟩ := hg.ex
  by_cases hp : 0 < s
  · refine ⟨s % b, gen (s / b) t c, Int.emod_nonneg _ (by omega), Int.emod_lt_of_pos _ (by omega), ⟨s / b, t, c, rfl, Int.ediv_nonneg h1 (by omega), Int.lt_of_le_of_lt (Int.ediv_le_self _ h1) h2, h3, h4, h5, by omega⟩, ?_⟩
    clear h2
    rw [e_law_random]
    apply outF_eq
    unfold z_law_random
    have hm : numAll .Mod (.int s) (.int b) = some (0, .int (s % b)) := num_mod (by omega)
    have hd : numAll .FloorDiv (.int s) (.int b) = some (0, .int (s / b)) := num_div ⟨by omega, log_small (by omega)⟩
    rw [wp_sq, wp_cIf]
    simp [itemOf, atD, hp, gen, prots, bi1_int, hm, hd, ixD, setKid]
  · have hs : s = 0 := by omega
    subst hs
    refine ⟨hashF t (c + 1) % b, gen 0 t (c + 1), Int.emod_nonneg _ (by omega), Int.emod_lt_of_pos _ (by omega), ⟨0, t, c + 1, rfl, by omega, h2, h3, h4, by omega, by omega⟩, ?_⟩
    clear h2
    rw [e_law_random]
    apply outF_eq
    unfold z_law_random
    have hm : numAll .Mod (.int (hashF t (c + 1))) (.int b) = some (0, .int (hashF t (c + 1) % b)) := num_mod (by omega)
    have hl := rnd_loop n t c b hb ⟨h3, h4⟩ ⟨h5, by omega⟩
    unfold rndB at hl
    generalize cFor (walkR (ret 0) (asInt (cAdd (tmp (ret (0, (.int 1)))) (tmp (cNum .FloorDiv (tmp (cMeth1 bitLen (slotO 1))) (tmp (ret (0, (.int 30))))))))) (fun x => (store [0] 3 (0, x))) (sq (nxt (bnd (cAdd (tmp (cItem (slotO 0) (tmp (ret (0, (.int 2)))))) (tmp (ret (0, (.int 1))))) fun v => bnd (slotO 0) fun _ => bnd (tmp (ret (0, (.int 2)))) fun o => bnd (peek o) fun di => mSet 0 di v)) (sq (nxt (bnd (cAdd (tmp (cNum .Mult (slotO 2) (tmp (ret (0, (.int 2147483587)))))) (tmp (bnd (argsM [aV (cItem (slotO 0) (tmp (ret (0, (.int 1))))), aV (cItem (slotO 0) (tmp (ret (0, (.int 2)))))]) fun as => cCall (callF P (n + 1)) "_law_hash" as))) fun v => (store [0] 2 v))) (ret .nx))) = L at hl ⊢
    refine wp_seq (ρ1 := [.val 1 (gen 0 t c), .val 0 (.int b), .dead, .dead]) ?_ (wp_seq (ρ1 := [.val 1 (gen 0 t c), .val 0 (.int b), .val 0 (.int 0), .dead]) ?_ (wp_seq hl ?_))
    · simp [itemOf, atD, gen]
    · simp [prots]
    · simp [bi1_int, hm]
end K88
end
section
namespace K88
open PySem PD
theorem and_tt {a b : Bool} (h : (a && b) = true) : a = true ∧ b = true := Bool.and_eq_true_iff.mp h
theorem pick_ok (n N : Nat) (g : PyData) (xs : List PyData) (k : Nat) (hg : GenOk N g) (hN : N ≤ 100000) (h1 : 1 ≤ xs.length) (h2 : xs.length ≤ 1000) (hi : ∀ x ∈ xs, imm x = true) : ∃ x g', x ∈ xs ∧ GenOk (N + 1) g' ∧ callF P (n + 3) "_law_pick" [.val 1 g, .val k (.list xs)] = some (.ok (0, x) [.val 1 g', .dead]) := by
  generalize hL : (xs.length : Int) = L
  obtain ⟨r, g', r0, r1, hg', e⟩ := random_ok n N g L hg hN (by omega)
  have hr : r.toNat < xs.length := by omega
  refine ⟨xs[r.toNat], g', List.getElem_mem _, hg', ?_⟩
  rw [e_law_pick]
  apply outF_eq
  unfold z_law_pick
  have hit : itemOf (.list xs) (.int r) = some xs[r.toNat] := by
    show atD xs r = _
    unfold atD
    rw [if_pos r0, List.getElem?_eq_getElem hr]
  have him : imm xs[r.toNat] = true := hi _ (List.getElem_mem _)
  rw [wp_sq, wp_rt, wp_cItem]
  simp [bi1_len_list, hL, e, hit, him]
theorem map_eraseIdx' {γ δ : Type} (f : γ → δ) : ∀ (l : List γ) (i : Nat), (l.map f).eraseIdx i = (l.eraseIdx i).map f
  | [], _ => rfl
  | x :: l, 0 => rfl
  | x :: l, i + 1 => by
    rw [List.map_cons, List.eraseIdx_cons_succ, List.eraseIdx_cons_succ, List.map_cons, map_eraseIdx' f l i]
theorem str_plain {l : List Str} : ∀ y ∈ l.map PyData.str, y.plain = true := fun y hy => by
  obtain ⟨x, _, rfl⟩ := List.mem_map.mp hy
  rfl
def drawB (n : Nat) : M Flw := sq (dp (bnd (isKind PyData.isList (.s 3)) fun _ => bnd (bnd (isKind PyData.isList (.s 2)) fun _ => bnd (bnd (argsM [aL 0, aV (cLook "len" (slotO 2))]) fun as => cCall (callF P (n + 2)) "_law_random" as) fun v => mPop 2 v.2) fun v => mAppend 3 v)) (ret .nx)
theorem draw_turn (n N : Nat) (g th : PyData) (lf fd : List Str) (k1 : Nat) (hg : GenOk N g) (hN : N ≤ 100000) (hl : lf ≠ []) (h2 : lf.length ≤ 1000) (h3 : fd.length ≤ 1000) :
    wp (drawB n) [.val 1 g, .val k1 th, .val 1 (.list (lf.map PyData.str)), .val 1 (.list (fd.map PyData.str))] (fun f ρ => f = .nx ∧ ∃ (i : Nat) (h : i < lf.length) (g' : PyData), GenOk (N + 1) g' ∧
      ρ = [.val 1 g', .val k1 th, .val 1 (.list ((lf.eraseIdx i).map PyData.str)), .val 1 (.list ((fd ++ [lf[i]]).map PyData.str))]) := by
  have hpos : 0 < lf.length := List.length_pos_iff.mpr hl
  generalize hL : (lf.length : Int) = L
  obtain ⟨r, g', r0, r1, hg', e⟩ := random_ok n N g L hg hN (by omega)
  have hr : r.toNat < lf.length := by omega
  have hix : ixD lf.length r = some r.toNat := by
    unfold ixD
    rw [if_pos r0, if_pos (by omega)]
  have b1 : decide (-(2 ^ 62) ≤ r) = true := (and_tt (rangeB_ok' (i := r) (by omega))).1
  have b2 : decide (r < 2 ^ 62) = true := (and_tt (rangeB_ok' (i := r) (by omega))).2
  have l3 : fd.length < sizeLine := small_lt (by omega)
  unfold drawB
  simp only [wp_sq, wp_dp, wp_bnd, wp_isKind, rsv_s, rdS_val, List.getElem?_cons_zero, List.getElem?_cons_succ, rdO_val, wO_some, PyData.isList, if_true, wp_argsM_cons, wp_argsM_nil, wp_aL, wp_aV, wp_cLook, wp_slotO, wp_peek, bi1_len_list, List.length_map, hL, wp_cCall', toSlots_l, toSlots_v, toSlots_nil, List.set_cons_zero, List.set_cons_succ, e, wCr_ok, backAll_l, backAll_v, backAll_nil, wp_mPop, wMs_list1, wIn_int, b1, b2, Bool.and_self, hix, wp_mAppend, wp_ret]
  rw [List.getElem?_map, List.getElem?_eq_getElem hr]
  simp only [Option.map_some, wO_some, List.set_cons_zero, List.set_cons_succ, List.getElem?_cons_zero, List.getElem?_cons_succ, wMs_list, wMs_list1, List.length_map, l3, if_true, wp_mAppend, wp_ret, map_eraseIdx', Nat.zero_add]
  refine ⟨trivial, r.toNat, hr, g', hg', ?_⟩
  rw [List.map_append]
  rfl
theorem perm_erase {γ : Type} : ∀ {l : List γ} {i : Nat} (h : i < l.length), (l[i] :: l.eraseIdx i).Perm l
  | [], i, h => by simp at h
  | x :: l, 0, _ => .refl _
  | x :: l, i + 1, h => by
    rw [List.eraseIdx_cons_succ, List.getElem_cons_succ]
    exact (List.Perm.swap _ _ _).trans (List.Perm.cons _ (perm_erase (by simpa using h)))
theorem z_draw_eq (cl : PD.Callee) (n : Nat) : z_law_drawn_order (callF P (n + 2)) = sq (nxt (bnd (evsM [(cMake "list" (slotO 1)), (cList (evsM []))]) fun vs => stoM [fun v => (store [0] 2 v), fun v => (store [0] 3 v)] vs))
  (sq (whileM (tst (cCmp .NotEq (slotO 2) (tmp (cList (evsM []))))) (drawB n) wTurns)
  (sq (rt (moveS [0] 3)) (ret .nx))) := by
  unfold z_law_drawn_order drawB
  rfl
theorem drawn_ok (n N : Nat) (g : PyData) (xs : List Str) (hg : GenOk N g) (hN : N ≤ 50000) (h2 : xs.length ≤ 100) : ∃ (l : List Str) (g' : PyData), l.Perm xs ∧ GenOk (N + xs.length) g' ∧ callF P (n + 3) "_law_drawn_order" [.val 1 g, .val 1 (.list (xs.map PyData.str))] = some (.ok (1, .list (l.map PyData.str)) [.val 1 g', .dead]) := by
  have key : wp (z_law_drawn_order (callF P (n + 2))) [.val 1 g, .val 1 (.list (xs.map PyData.str)), .dead, .dead] (fun f ρ => ∃ (l : List Str) (g' : PyData), l.Perm xs ∧ GenOk (N + xs.length) g' ∧ f = .rt (1, .list (l.map PyData.str)) ∧ backOf [true, false] ρ = [.val 1 g', .dead]) := by
    rw [z_draw_eq (fun _ _ => none)]
    refine wp_seq (ρ1 := [.val 1 g, .val 1 (.list (xs.map PyData.str)), .val 1 (.list (xs.map PyData.str)), .val 1 (.list [])]) ?_ ?_
    · simp [bk1_list_list, prots]
    rw [wp_sq]
    refine wp_while xs.length wTurns (fun k ρ => ∃ (lf fd : List Str) (g' : PyData), k = lf.length ∧ (fd ++ lf).Perm xs ∧ GenOk (N + fd.length) g' ∧ ρ = [.val 1 g', .val 1 (.list (xs.map PyData.str)), .val 1 (.list (lf.map PyData.str)), .val 1 (.list (fd.map PyData.str))]) ?_ ⟨xs, [], g, rfl, .refl _, hg, rfl⟩ ?_
    · show xs.length < 1000000
      omega
    · rintro k ρ ⟨lf, fd, g', rfl, hp, hg', rfl⟩
      have hlen := hp.length_eq
      rw [List.length_append] at hlen
      simp only [wp_tst, wp_cCmp, wp_slotO, rdS_val, List.getElem?_cons_zero, List.getElem?_cons_succ, rdO_val, wO_some, wp_tmp, wp_cList, wp_evsM_nil, List.length_nil, nil_ok, if_true, List.map_nil, wp_peek, rsv_s, rsv_t, cmp_ne, eq_nil (str_plain (l := lf)), notO_some, wBo_bool]
      cases lf with
      | nil =>
        simp
        refine ⟨rfl, fd, by simpa using hp, ?_⟩
        simpa [← hlen] using hg'
      | cons y lf =>
        simp only [List.map_cons, List.isEmpty_cons, Bool.not_false, if_true]
        refine wp_mono (draw_turn n (N + fd.length) g' _ (y :: lf) fd 1 hg' (by omega) (by simp) (by omega) (by omega)) fun f ρ2 ⟨ef, i, hi, g2, hg2, er⟩ => ?_
        subst ef er
        refine ⟨((y :: lf).eraseIdx i).length, ?_, (y :: lf).eraseIdx i, fd ++ [(y :: lf)[i]], g2, rfl, ?_, by rw [List.length_append]; exact hg2, rfl⟩
        · rw [List.length_eraseIdx_of_lt hi]; simp
        · refine List.Perm.trans ?_ hp
          rw [List.append_assoc]
          exact List.Perm.append_left fd (perm_erase hi)
  rw [e_law_drawn_order]
  obtain ⟨f, ρ', e, l, g', h1, h2, rfl, h3⟩ := wp_def.mp key
  rw [e]
  exact ⟨l, g', h1, h2, by unfold outF; rw [← h3]⟩
end K88
end
section
namespace K88
open PySem PD
theorem ratio_lt {oy ob ox B X Y : Int} (hB : 0 < B) (hX : 0 < X) (hY : 0 < Y) (h1 : oy * B ≤ ob * Y) (h2 : ob * X < ox * B) : oy * X < ox * Y := by
  have a1 : oy * B * X ≤ ob * Y * X := Int.mul_le_mul_of_nonneg_right h1 (by omega)
  have a2 : ob * X * Y < ox * B * Y := Int.mul_lt_mul_of_pos_right h2 hY
  have e1 : oy * B * X = oy * X * B := Int.mul_right_comm ..
  have e2 : ob * Y * X = ob * X * Y := Int.mul_right_comm ..
  have e3 : ox * B * Y = ox * Y * B := Int.mul_right_comm ..
  have a3 : oy * X * B < ox * Y * B := by rw [← e1, ← e3]; rw [e2] at a1; exact Int.lt_of_le_of_lt a1 a2
  exact Int.lt_of_mul_lt_mul_right a3 (by omega)
theorem gt_trans {o p : Tab} {x y b : Str} (hx : 0 ≤ tget p x) (hy : 0 ≤ tget p y) (hb : 0 ≤ tget p b) (h1 : gtT o p y b = false) (h2 : gtT o p x b = true) : gtT o p x y = true := by
  unfold gtT at *
  have h1 := of_decide_eq_false h1
  have h2 := of_decide_eq_true h2
  exact decide_eq_true (ratio_lt (by omega) (by omega) (by omega) (by omega) h2)
theorem gt_asym {o p : Tab} {x y : Str} (h : gtT o p x y = true) : gtT o p y x = false := by
  unfold gtT at *
  have h := of_decide_eq_true h
  exact decide_eq_false (by omega)
theorem gt_irr (o p : Tab) (x : Str) : gtT o p x x = false := by
  unfold gtT
  exact decide_eq_false (by omega)
theorem fold_aux {o p : Tab} (hp : ∀ x ∈ tkeys o, 0 ≤ tget p x) : ∀ (l done : List Str) (b : Str) (pre post : List Str), (∀ x ∈ done ++ l, x ∈ tkeys o) → done = pre ++ b :: post → (∀ y ∈ done, gtT o p y b = false) → (∀ y ∈ pre, gtT o p b y = true) →
    ∃ b' pre' post', l.foldl (stepT o p) (some b) = some b' ∧ done ++ l = pre' ++ b' :: post' ∧ (∀ y ∈ done ++ l, gtT o p y b' = false) ∧ (∀ y ∈ pre', gtT o p b' y = true)
  | [], done, b, pre, post, hs, e, h1, h2 => ⟨b, pre, post, rfl, by rw [List.append_nil]; exact e, by rw [List.append_nil]; exact h1, h2⟩
  | x :: l, done, b, pre, post, hs, e, h1, h2 => by
    have ea : done ++ x :: l = (done ++ [x]) ++ l := by rw [List.append_assoc]; rfl
    have hb : b ∈ done := by rw [e]; simp
    have pb := hp b (hs b (List.mem_append_left _ hb))
    have px := hp x (hs x (List.mem_append_right _ (List.mem_cons_self ..)))
    rw [List.foldl_cons]
    by_cases hc : gtT o p x b = true
    · have es : stepT o p (some b) x = some x := by unfold stepT; dsimp only; rw [if_pos hc]
      rw [es, ea]
      have hd : ∀ y ∈ done, gtT o p x y = true := fun y hy => gt_trans px (hp y (hs y (List.mem_append_left _ hy))) pb (h1 y hy) hc
      refine fold_aux hp l (done ++ [x]) x done [] (fun y hy => hs y (by rw [ea]; exact hy)) rfl (fun y hy => ?_) hd
      rcases List.mem_append.mp hy with hy | hy
      · exact gt_asym (hd y hy)
      · rw [List.mem_singleton.mp hy]; exact gt_irr o p x
    · have es : stepT o p (some b) x = some b := by unfold stepT; dsimp only; rw [if_neg hc]
      rw [es, ea]
      refine fold_aux hp l (done ++ [x]) b pre (post ++ [x]) (fun y hy => hs y (by rw [ea]; exact hy)) (by rw [e]; simp) (fun y hy => ?_) h2
      rcases List.mem_append.mp hy with hy | hy
      · exact h1 y hy
      · rw [List.mem_singleton.mp hy]; exact Bool.eq_false_iff.mpr hc
theorem fold_best {o p : Tab} (hp : ∀ x ∈ tkeys o, 0 ≤ tget p x) (l : List Str) (b : Str) (hs : ∀ x ∈ l, x ∈ tkeys o) (hb : l.foldl (stepT o p) none = some b) : ∃ pre post, l = pre ++ b :: post ∧ (∀ y ∈ l, gtT o p y b = false) ∧ (∀ y ∈ pre, gtT o p b y = true) := by
  cases l with
  | nil => cases hb
  | cons x l =>
    obtain ⟨b', pre', post', e1, e2, e3, e4⟩ := fold_aux hp l [x] x [] [] hs rfl (fun y hy => by rw [List.mem_singleton.mp hy]; exact gt_irr o p x) (fun y hy => nomatch hy)
    have eb : some b = some b' := by rw [← hb, ← e1]; rfl
    cases eb
    exact ⟨pre', post', e2, e3, e4⟩
/-- the first whom nobody beats -/
theorem first_best {o p : Tab} {b x : Str} {pre post pre' post' : List Str} (e : pre ++ x :: post = pre' ++ b :: post') (h0 : ∀ y ∈ pre, ∃ z ∈ pre' ++ b :: post', gtT o p z y = true) (h1 : ∀ y ∈ pre' ++ b :: post', gtT o p y b = false) (h2 : ∀ y ∈ pre', gtT o p b y = true) (hx : ∀ z ∈ pre' ++ b :: post', gtT o p z x = false) : x = b := by
  have nb : b ∉ pre := fun hm => by
    obtain ⟨z, hz, g⟩ := h0 b hm
    rw [h1 z hz] at g
    cases g
  have nx : x ∉ pre' := fun hm => by
    have := h2 x hm
    rw [hx b (by simp)] at this
    cases this
  rcases List.append_eq_append_iff.mp e with ⟨c, e1, e2⟩ | ⟨c, e1, e2⟩
  · cases c with
    | nil => injection e2
    | cons y c =>
      injection e2 with e3 e4
      exact absurd (by rw [e1, e3]; simp) nx
  · cases c with
    | nil => injection e2 with e3; exact e3.symm
    | cons y c =>
      injection e2 with e3 e4
      exact absurd (by rw [e1, e3]; simp) nb
theorem best_ok (n j : Nat) (o p : Tab) (b : Str) (h : o.length ≤ 1000) (w : Own o) (q : Prt o p) (hb : (ks o).foldl (stepT o p) none = some b) : callF P (n + 1) "_law_best" [.val 0 (.dict (kv o)), .val j (.dict (kv p))] = some (.ok (0, .str b) [.dead, .val j (.dict (kv p))]) := by
  rw [e_law_best]
  apply outF_eq
  unfold z_law_best
  have hl : o.length ≤ sizeLine := small_ok (Nat.le_trans h (by decide))
  have kl : (ks o).length = o.length := by rw [(ks_perm o).length_eq, tkeys_len]
  obtain ⟨pre', post', f1, f2, f3⟩ := fold_best (fun x hx => (q.ge x hx).1) (ks o) b (fun x hx => ks_mem.mp hx) hb
  refine wp_seq (ρ1 := [.val 0 (.dict (kv o)), .val j (.dict (kv p)), .val 1 (.list ((ks o).map PyData.str)), .dead, .dead]) ?_ ?_
  · simp [prots, sorted_kv o h]
  rw [wp_sq]
  simp only [wp_cFor, wp_walkO, wp_slotO, rdS_val, List.getElem?_cons_zero, List.getElem?_cons_succ, rdO_val, wO_some, wp_froz_f, wKd_val, List.set_cons_zero, List.set_cons_succ, items_list, wp_unwalk_nil]
  refine wp_forT PyData.str (ks o) (fun pre ρ => (∀ y ∈ pre, ∃ z ∈ ks o, gtT o p z y = true) ∧ ∃ s, Sf s ∧ ρ = [.val 0 (.dict (kv o)), .val j (.dict (kv p)), .val 0 (.list ((ks o).map PyData.str)), s, .dead]) ⟨(fun y hy => nomatch hy), _, .inl rfl, rfl⟩ (fun pre x post ρ e ⟨hpre, s, hs, er⟩ => ?_) (fun ρ ⟨hpre, s, hs, er⟩ => ?_)
  · subst er
    have hx : x ∈ tkeys o := ks_mem.mp (by rw [e]; simp)
    have store : wp (store [1] 3 (0, PyData.str x)) [.val 0 (.dict (kv o)), .val j (.dict (kv p)), .val 0 (.list ((ks o).map PyData.str)), s, .dead] (fun _ ρ' => ρ' = [.val 0 (.dict (kv o)), .val j (.dict (kv p)), .val 0 (.list ((ks o).map PyData.str)), .val 0 (.str x), .dead]) := by
      rcases hs with rfl | ⟨k, d, rfl⟩ <;> simp [prots]
    refine wp_mono store fun _ ρ' e' => ?_
    subst e'
    have cond : wp (tst (cCmp .Eq (tmp (cLc (walkO false (slotO 2)) [4] (fun x => (PD.store [] 4 (0, x))) (tst (cCmp .Gt (tmp (cNum .Mult (tmp (cItem (slotO 0) (slotO 4))) (tmp (cAdd (tmp (cNum .Mult (tmp (ret (0, (.int 2)))) (tmp (cItem (slotO 1) (slotO 3))))) (tmp (ret (0, (.int 1)))))))) (tmp (cNum .Mult (tmp (cItem (slotO 0) (slotO 3))) (tmp (cAdd (tmp (cNum .Mult (tmp (ret (0, (.int 2)))) (tmp (cItem (slotO 1) (slotO 4))))) (tmp (ret (0, (.int 1)))))))))) (share 4))) (tmp (cList (evsM []))))) [.val 0 (.dict (kv o)), .val j (.dict (kv p)), .val 0 (.list ((ks o).map PyData.str)), .val 0 (.str x), .dead] (fun t ρ' => t = ((ks o).filter fun y => gtT o p y x).isEmpty ∧ ρ' = [.val 0 (.dict (kv o)), .val j (.dict (kv p)), .val 0 (.list ((ks o).map PyData.str)), .val 0 (.str x), .dead]) := by
      simp [items_list]
      refine wp_compT PyData.str (fun y => if gtT o p y x = true then [((0 : Nat), PyData.str y)] else []) rfl _ (fun y hy => ?_) ?_
      · have hy := ks_mem.mp hy
        have w1 := w.ge x hx
        have w2 := w.ge y hy
        have q1 := q.ge x hx
        have q2 := q.ge y hy
        have px : x ∈ tkeys p := q.ky ▸ hx
        have py : y ∈ tkeys p := q.ky ▸ hy
        have m1 := mul_small (a := 2) (b := tget p x) (by omega) (by omega)
        have m2 := mul_small (a := 2) (b := tget p y) (by omega) (by omega)
        have m3 := mul_small (a := tget o x) (b := 2 * tget p y + 1) (by omega) (by omega)
        have m4 := mul_small (a := tget o y) (b := 2 * tget p x + 1) (by omega) (by omega)
        simp [item_kv hx, item_kv hy, item_kv px, item_kv py, num_mul m1, num_mul m2, num_mul m3, num_mul m4, gtT]
      · rw [flat_filter]
        have hf : ((ks o).filter fun y => gtT o p y x).length ≤ sizeLine := small_ok (Nat.le_trans (List.length_filter_le _ _) (by omega))
        have en := eq_nil (xs := ((ks o).filter fun y => gtT o p y x).map PyData.str) str_plain
        simp [hf, Function.comp_def, en]
    rw [wp_sq, wp_cIf]
    refine wp_mono cond fun t ρ' e' => ?_
    obtain ⟨et, er⟩ := e'
    subst er
    subst et
    by_cases hc : ((ks o).filter fun y => gtT o p y x).isEmpty = true
    · rw [if_pos hc]
      have hxx : x = b := by
        refine first_best (o := o) (p := p) (pre := pre) (post := post) (pre' := pre') (post' := post') (by rw [← e, ← f1]) (by rw [← f1]; exact hpre) (by rw [← f1]; exact f2) f3 ?_
        rw [← f1]
        intro z hz
        have := List.filter_eq_nil_iff.mp (List.isEmpty_iff.mp hc) z hz
        exact Bool.eq_false_iff.mpr this
      subst hxx
      simp [prots]
    · rw [if_neg hc]
      rw [wp_ret, wp_ret]
      refine ⟨fun y hy => ?_, _, .inr ⟨_, _, rfl⟩, rfl⟩
      rcases List.mem_append.mp hy with hy | hy
      · exact hpre y hy
      · rw [List.mem_singleton.mp hy]
        have hne : ((ks o).filter fun y => gtT o p y x) ≠ [] := fun z => hc (by rw [z]; rfl)
        obtain ⟨z, hz⟩ := List.exists_mem_of_ne_nil _ hne
        obtain ⟨hz1, hz2⟩ := List.mem_filter.mp hz
        exact ⟨z, hz1, hz2⟩
  · exfalso
    have hbm : b ∈ ks o := by rw [f1]; simp
    obtain ⟨z, hz, g⟩ := hpre b hbm
    rw [f2 z hz] at g
    cases g
end K88
end
section
namespace K88
open PySem PD
def ownB (cl : PD.Callee) : M Flw := sq (nxt (bnd (bnd (argsM [aL 0, aV (cList (evsM [(bnd (argsM [aL 0, aV (ret (0, (.int 4)))]) fun as => cCall cl "_law_random" as), (cAdd (tmp (ret (0, (.int 1)))) (tmp (bnd (argsM [aL 0, aV (ret (0, (.int 9)))]) fun as => cCall cl "_law_random" as))), (bnd (argsM [aL 0, aV (ret (0, (.int 2)))]) fun as => cCall cl "_law_random" as)]))]) fun as => cCall cl "_law_pick" as) fun v => bnd (slotO 2) fun _ => bnd (slotO 3) fun o => bnd (peek o) fun di => mSet 2 di v))
    (ret .nx)
@[simp] theorem three_ok : (3 ≤ sizeLine) = True := eq_true (small_ok (by decide))
theorem lev_3 {a b c : Int} {i j k : Nat} : lev [(i, .int a), (j, .int b), (k, .int c)] = 0 := rfl
theorem own_turn (n N : Nat) (g : PyData) (m : Int) (o : Tab) (x : Str) (hg : GenOk N g) (hN : N ≤ 50000) (ho : o.length ≤ 100) : ∃ (v : Int) (g' : PyData), 0 ≤ v ∧ v ≤ 9 ∧ GenOk (N + 4) g' ∧
    wp (ownB (callF P (n + 3))) [.val 1 g, .val 0 (.int m), .val 1 (.dict (kv o)), .val 0 (.str x)] (fun f ρ => f = .nx ∧ ρ = [.val 1 g', .val 0 (.int m), .val 1 (.dict (kv (put o x v))), .val 0 (.str x)]) := by
  obtain ⟨r1, g1, a1, b1, h1, e1⟩ := random_ok (n + 1) N g 4 hg (by omega) (by omega)
  obtain ⟨r2, g2, a2, b2, h2, e2⟩ := random_ok (n + 1) (N + 1) g1 9 h1 (by omega) (by omega)
  obtain ⟨r3, g3, a3, b3, h3, e3⟩ := random_ok (n + 1) (N + 1 + 1) g2 2 h2 (by omega) (by omega)
  obtain ⟨d, g4, hd, h4, e4⟩ := pick_ok n (N + 1 + 1 + 1) g3 [.int r1, .int (1 + r2), .int r3] 1 h3 (by omega) (by simp) (by simp) (by simp)
  obtain ⟨v, rfl, hv⟩ : ∃ v : Int, d = .int v ∧ 0 ≤ v ∧ v ≤ 9 := by
    simp only [List.mem_cons, List.not_mem_nil, or_false] at hd
    rcases hd with rfl | rfl | rfl
    · exact ⟨_, rfl, by omega, by omega⟩
    · exact ⟨_, rfl, by omega, by omega⟩
    · exact ⟨_, rfl, by omega, by omega⟩
  refine ⟨v, g4, hv.1, hv.2, h4, ?_⟩
  have hl : o.length < sizeLine := small_lt (by omega)
  unfold ownB
  simp only [wp_sq, wp_nxt, wp_bnd, wp_argsM_cons, wp_argsM_nil, wp_aL, wp_aV, rdS_val, List.getElem?_cons_zero, List.getElem?_cons_succ, rdO_val, wO_some, wp_cList, wp_evsM_cons, wp_evsM_nil, wp_ret, wp_cCall', toSlots_l, toSlots_v, toSlots_nil, List.set_cons_zero, List.set_cons_succ, e1, e2, e3, wCr_ok, backAll_l, backAll_v, backAll_nil, wp_cAdd, wp_tmp, wp_kids_t, add_int, List.length_cons, List.length_nil, Nat.zero_add, Nat.reduceAdd, three_ok, if_true, List.map_cons, List.map_nil, lev_3, e4]
  simp [keyOk_kv, hl, dput_kv, setKid]
end K88
end
section
namespace K88
open PySem PD
theorem put_new {x : Str} {v : Int} : ∀ {o : Tab}, x ∉ tkeys o → put o x v = o ++ [(x, v)]
  | [], _ => rfl
  | (y, u) :: r, h => by
    unfold put
    have e : ¬ y = x := fun e => h (e ▸ List.mem_cons_self ..)
    rw [if_neg e, put_new fun z => h (List.mem_cons_of_mem _ z)]
    rfl
theorem tkeys_app (o r : Tab) : tkeys (o ++ r) = tkeys o ++ tkeys r := List.map_append
theorem own_loop (n N : Nat) (g : PyData) (m : Int) (ks : List Str) (hg : GenOk N g) (hN : N ≤ 10000) (hk : ks.length ≤ 10) (nd : ks.Nodup) :
    wp (forM (fun x => store [0] 3 (0, x)) (ownB (callF P (n + 3))) (ks.map PyData.str)) [.val 1 g, .val 0 (.int m), .val 1 (.dict []), .dead] (fun f ρ => f = .nx ∧ ∃ (o : Tab) (g' : PyData) (s : Slot), tkeys o = ks ∧ (∀ x ∈ ks, 0 ≤ tget o x ∧ tget o x ≤ 9) ∧ GenOk (N + 4 * ks.length) g' ∧ (s = .dead ∨ ∃ d, s = .val 0 d) ∧ ρ = [.val 1 g', .val 0 (.int m), .val 1 (.dict (kv o)), s]) := by
  refine wp_forM (ks.map PyData.str) (fun i ρ => ∃ (o : Tab) (g' : PyData) (s : Slot), tkeys o = ks.take i ∧ (∀ x ∈ tkeys o, 0 ≤ tget o x ∧ tget o x ≤ 9) ∧ GenOk (N + 4 * i) g' ∧ (s = .dead ∨ ∃ d, s = .val 0 d) ∧ ρ = [.val 1 g', .val 0 (.int m), .val 1 (.dict (kv o)), s]) ⟨[], g, .dead, rfl, (fun x h => nomatch h), hg, Or.inl rfl, rfl⟩ ?_ ?_
  · rintro i y ρ e ⟨o, g', s, ek, hv, hg', hs0, rfl⟩
    rw [List.getElem?_map] at e
    obtain ⟨x, ex, rfl⟩ := Option.map_eq_some_iff.mp e
    obtain ⟨hi, exi⟩ := List.getElem?_eq_some_iff.mp ex
    have hol : o.length ≤ 100 := by
      have : (tkeys o).length = o.length := List.length_map _
      rw [← this, ek, List.length_take]
      omega
    have hx : x ∉ tkeys o := by
      rw [ek]
      intro hm
      have nd2 := nd
      rw [← List.take_append_drop i ks] at nd2
      refine (List.nodup_append.mp nd2).2.2 _ hm _ ?_ rfl
      rw [← exi, ← List.getElem_cons_drop hi]
      exact List.mem_cons_self ..
    obtain ⟨v, g2, v0, v9, hg2, ht⟩ := own_turn n (N + 4 * i) g' m o x hg' (by omega) hol
    have hs : wp (store [0] 3 (0, PyData.str x)) [.val 1 g', .val 0 (.int m), .val 1 (.dict (kv o)), s] fun _ ρ1 => ρ1 = [.val 1 g', .val 0 (.int m), .val 1 (.dict (kv o)), .val 0 (.str x)] := by
      rcases hs0 with rfl | ⟨d, rfl⟩ <;> simp [prots]
    refine wp_mono hs fun _ ρ1 e1 => ?_
    subst e1
    refine wp_mono ht fun f ρ2 ⟨ef, er⟩ => ?_
    subst ef
    refine ⟨put o x v, g2, _, ?_, ?_, hg2, Or.inr ⟨_, rfl⟩, er⟩
    · rw [put_new hx, tkeys_app, ek, List.take_add_one, ex]
      rfl
    · intro z hz
      rw [tget_put]
      by_cases e : x = z
      · rw [if_pos e]; exact ⟨v0, v9⟩
      · rw [if_neg e]
        rw [put_new hx, tkeys_app] at hz
        rcases List.mem_append.mp hz with h | h
        · exact hv z h
        · exact absurd (List.mem_singleton.mp h).symm e
  · rintro ρ ⟨o, g', s, ek, hv, hg', hs0, rfl⟩
    rw [List.length_map] at ek hg'
    rw [List.take_length] at ek
    exact ⟨rfl, o, g', s, ek, ek ▸ hv, hg', hs0, rfl⟩
end K88
end
section
namespace K88
open PySem PD
def nm5 : List Str := ["ann", "b10", "b2", "cy", "di"]
def ownT (n : Nat) : M Bool := tst (cCmp .Eq (tmp (cLook "sum" (tmp (cLc (walkO true (slotO 2)) [3] (fun x => (store [] 3 (0, x))) (ret true) (cItem (slotO 2) (slotO 3)))))) (tmp (ret (0, (.int 0)))))
def ownS (cl : PD.Callee) : M Flw := sq (nxt (bnd (cAdd (tmp (ret (0, (.int 1)))) (tmp (bnd (argsM [aL 0, aV (ret (0, (.int 5)))]) fun as => cCall cl "_law_random" as))) fun v => bnd (slotO 2) fun _ => bnd (tmp (cItem (tmp (cMake "sorted" (slotO 2))) (tmp (cNeg (ret (0, (.int 1))))))) fun o => bnd (peek o) fun di => mSet 2 di v))
    (ret .nx)
theorem z_own_eq (cl : PD.Callee) : z_law_owners cl = (sq (nxt (bnd (ret (1, .dict [])) fun v => (store [0] 2 v)))
  (sq (cFor (walkO false (tmp (cSlice (tmp (bnd (argsM [aL 0, aV (cList (evsM [(ret (0, (.str "ann"))), (ret (0, (.str "b10"))), (ret (0, (.str "b2"))), (ret (0, (.str "cy"))), (ret (0, (.str "di")))]))]) fun as => cCall cl "_law_drawn_order" as)) (ret none) (oInt (cAdd (tmp (ret (0, (.int 1)))) (tmp (bnd (argsM [aL 0, aV (share 1)]) fun as => cCall cl "_law_random" as))))))) (fun x => (store [0] 3 (0, x))) (ownB cl))
  (sq (cIf (ownT 0) (ownS cl) (ret .nx))
  (sq (rt (moveS [0] 2))
  (ret .nx))))) := by
  unfold z_law_owners ownB ownT ownS
  rfl
theorem ownT_ok (g : PyData) (m : Int) (o : Tab) (s : Slot) (ho : o.length ≤ 100) (hs : s = .dead ∨ ∃ d, s = .val 0 d) : wp (ownT 0) [.val 1 g, .val 0 (.int m), .val 1 (.dict (kv o)), s] (fun b ρ => b = decide (sumT o = 0) ∧ ∃ s', ρ = [.val 1 g, .val 0 (.int m), .val 1 (.dict (kv o)), s']) := by
  unfold ownT
  have hl : o.length ≤ sizeLine := small_ok (by omega)
  have fin : ∀ ρ0 : Sts, ρ0 = [.val 1 g, .val 0 (.int m), .ro (.dict (kv o)), .dead] → ∀ (Q : List Vl → Sts → Prop), Q ((tkeys o).map fun x => (0, PyData.int (tget o x))) ρ0 → wp (compM [3] (fun x => bnd (store [] 3 (0, x)) fun x => bnd (ret true) fun b => if b = true then bnd (cItem (slotO 2) (slotO 3)) fun v => ret [v] else ret []) ((tkeys o).map PyData.str)) ρ0 Q := by
    rintro ρ0 rfl Q hQ
    refine wp_compT PyData.str (fun x => [(0, PyData.int (tget o x))]) rfl _ (fun x hx => ?_) ?_
    · simp [item_kv hx]
    · rw [flatMap_one]
      exact hQ
  rcases hs with rfl | ⟨d, rfl⟩
  · simp [items_kv]
    refine fin _ rfl _ ?_
    simp [bi1_sum, Function.comp_def, allInts_map', hl, sumT]
    rfl
  · simp [items_kv]
    refine fin _ rfl _ ?_
    simp [bi1_sum, Function.comp_def, allInts_map', hl, sumT]
    rfl
theorem ks_ne {o : Tab} (h : tkeys o ≠ []) : ks o ≠ [] := fun e => h (by
  have := (ks_perm o).length_eq
  rw [e] at this
  exact List.length_eq_zero_iff.mp this.symm)
theorem item_last (xs : List Str) (h : xs ≠ []) : itemOf (.list (xs.map PyData.str)) (.int (-1)) = some (.str (xs.getLast h)) := by
  show atD (xs.map PyData.str) (-1) = _
  have hp : 0 < xs.length := List.length_pos_iff.mpr h
  unfold atD
  rw [List.length_map, if_neg (by decide), if_pos (by omega), show (-1 + (xs.length : Int)).toNat = xs.length - 1 by omega, List.getElem?_map, List.getLast_eq_getElem, List.getElem?_eq_getElem (by omega)]
  rfl
theorem ownS_ok (n N : Nat) (g : PyData) (m : Int) (o : Tab) (s : Slot) (hg : GenOk N g) (hN : N ≤ 10000) (ho : o.length ≤ 100) (hk : tkeys o ≠ []) : wp (ownS (callF P (n + 3))) [.val 1 g, .val 0 (.int m), .val 1 (.dict (kv o)), s] (fun f ρ => f = .nx ∧ ∃ (x : Str) (v : Int) (g' : PyData), x ∈ tkeys o ∧ 1 ≤ v ∧ v ≤ 5 ∧ GenOk (N + 1) g' ∧ ρ = [.val 1 g', .val 0 (.int m), .val 1 (.dict (kv (put o x v))), s]) := by
  obtain ⟨r1, g1, a1, b1, h1, e1⟩ := random_ok (n + 1) N g 5 hg (by omega) (by omega)
  have hl : o.length < sizeLine := small_lt (by omega)
  refine wp_mono (Q := fun f ρ => f = .nx ∧ ρ = [.val 1 g1, .val 0 (.int m), .val 1 (.dict (kv (put o ((ks o).getLast (ks_ne hk)) (1 + r1)))), s]) ?_ fun f ρ ⟨a, b⟩ => ⟨a, _, _, g1, ks_mem.mp (List.getLast_mem _), by omega, by omega, h1, b⟩
  unfold ownS
  simp only [wp_sq, wp_nxt, wp_bnd, wp_argsM_cons, wp_argsM_nil, wp_aL, wp_aV, rdS_val, List.getElem?_cons_zero, List.getElem?_cons_succ, rdO_val, wO_some, wp_ret, wp_cCall', toSlots_l, toSlots_v, toSlots_nil, List.set_cons_zero, List.set_cons_succ, e1, wCr_ok, backAll_l, backAll_v, backAll_nil, wp_cAdd, wp_tmp, wp_kids_t, add_int, wp_slotO, wp_cItem, wp_cMake]
  simp [sorted_kv o (by omega), item_last _ (ks_ne hk), keyOk_kv, hl, dput_kv, setKid]
theorem sum_zero {f : Str → Int} : ∀ {l : List Str}, (∀ x ∈ l, f x = 0) → (l.map f).sum = 0
  | [], _ => rfl
  | x :: l, h => by
    rw [List.map_cons, List.sum_cons, h x (List.mem_cons_self ..), sum_zero fun y hy => h y (List.mem_cons_of_mem _ hy)]
    rfl
theorem own_of {o : Tab} (nd : (tkeys o).Nodup) (nm : ∀ x ∈ tkeys o, x ∈ nm5) (ge : ∀ x ∈ tkeys o, 0 ≤ tget o x ∧ tget o x ≤ 9) (h : sumT o ≠ 0) : Own o := by
  refine ⟨nd, fun x hx => ?_, fun x hx => ⟨(ge x hx).1, by have := (ge x hx).2; omega⟩, ?_⟩
  · have := nm x hx
    unfold nm5 at this
    unfold nms
    simp only [List.mem_cons, List.not_mem_nil, or_false] at this ⊢
    rcases this with h | h | h | h | h <;> simp [h]
  · refine Classical.byContradiction fun hn => h ?_
    refine sum_zero fun x hx => ?_
    have h1 := (ge x hx).1
    have h2 : ¬ 0 < tget o x := fun z => hn ⟨x, hx, z⟩
    omega
theorem own_put {o : Tab} {y : Str} {v : Int} (nd : (tkeys o).Nodup) (nm : ∀ x ∈ tkeys o, x ∈ nm5) (ge : ∀ x ∈ tkeys o, 0 ≤ tget o x ∧ tget o x ≤ 9) (hy : y ∈ tkeys o) (hv : 1 ≤ v ∧ v ≤ 5) : Own (put o y v) := by
  have ek : tkeys (put o y v) = tkeys o := put_keys hy
  have nm' : ∀ x ∈ tkeys o, x ∈ nms := fun x hx => by
    have := nm x hx
    unfold nm5 at this
    unfold nms
    simp only [List.mem_cons, List.not_mem_nil, or_false] at this ⊢
    rcases this with h | h | h | h | h <;> simp [h]
  refine ⟨ek ▸ nd, fun x hx => nm' x (ek ▸ hx), fun x hx => ?_, ⟨y, ek ▸ hy, ?_⟩⟩
  · rw [tget_put]
    by_cases e : y = x
    · rw [if_pos e]; omega
    · rw [if_neg e]
      have := ge x (ek ▸ hx)
      omega
  · rw [tget_put, if_pos rfl]
    omega
end K88
end
section
namespace K88
open PySem PD
theorem own_ent {o : Tab} (w : Own o) : ∀ p ∈ o, p.1 ∈ nms ∧ 0 ≤ p.2 ∧ p.2 ≤ 10 := by
  intro p hp
  rw [kv_of o w.nd] at hp
  obtain ⟨x, hx, rfl⟩ := List.mem_map.mp hp
  exact ⟨w.nm x hx, w.ge x hx⟩
theorem nm_shown : nms.all (fun x => decide ((PyData.shown (.str x)).length ≤ 8)) = true := by decide +kernel
theorem int_shown (v : Int) (h : 0 ≤ v ∧ v ≤ 10) : (PyData.shown (.int v)).length ≤ 8 ∧ PyData.showable (.int v) = true := by
  have : v = 0 ∨ v = 1 ∨ v = 2 ∨ v = 3 ∨ v = 4 ∨ v = 5 ∨ v = 6 ∨ v = 7 ∨ v = 8 ∨ v = 9 ∨ v = 10 := by omega
  rcases this with rfl | rfl | rfl | rfl | rfl | rfl | rfl | rfl | rfl | rfl | rfl <;> decide +kernel
theorem kv_piled : ∀ o : Tab, (∀ p ∈ o, p.1 ∈ nms ∧ 0 ≤ p.2 ∧ p.2 ≤ 10) → piled (PyData.shownKv (kv o)) ≤ 30 * o.length ∧ PyData.showableKv (kv o) = true ∧ PyData.depthKv (kv o) = 0
  | [], _ => ⟨by decide, rfl, rfl⟩
  | (x, v) :: r, h => by
    obtain ⟨h1, h2, h3⟩ := kv_piled r fun p hp => h p (List.mem_cons_of_mem _ hp)
    obtain ⟨e1, e2⟩ := h (x, v) (List.mem_cons_self ..)
    have l1 := of_decide_eq_true (List.all_eq_true.mp nm_shown x e1)
    obtain ⟨l2, l3⟩ := int_shown v e2
    have ek : kv ((x, v) :: r) = (.str x, .int v) :: kv r := rfl
    rw [ek, PyData.shownKv, piled_cons, strLen_append, strLen_append, PyData.showableKv, PyData.depthKv, h2, l3, h3]
    have e2 : ((": " : String) : Str).length = 2 := rfl
    rw [e2, List.length_cons]
    refine ⟨by omega, ?_, ?_⟩
    · simp [PyData.showable]
    · simp [PyData.depth]
theorem bi1_repr (x : PyData) : bi1 "repr" x = if x.showable && decide (x.depth ≤ 50) && decide (x.shown.length ≤ sizeLine) then some (0, .str x.shown) else none := by kernel_rfl
theorem repr_ok (o : Tab) (h : o.length ≤ 1000) (w : Own o) : bi1 "repr" (.dict (kv o)) = some (0, .str (PyData.shown (.dict (kv o)))) := by
  obtain ⟨h1, h2, h3⟩ := kv_piled o (own_ent w)
  have hs : PyData.showable (.dict (kv o)) = true := by rw [PyData.showable]; exact h2
  have hd : PyData.depth (.dict (kv o)) ≤ 50 := by rw [PyData.depth, h3]; omega
  have hl : (PyData.shown (.dict (kv o))).length ≤ sizeLine := by
    rw [PyData.shown]
    unfold dictText
    rw [strLen_append, strLen_append]
    have e1 : ((("{" : String) : Str)).length = 1 := rfl
    have e3 : ((("}" : String) : Str)).length = 1 := rfl
    rw [e1, e3]
    refine small_ok ?_
    by_cases hn : PyData.shownKv (kv o) = []
    · rw [hn]
      decide
    · have := join_length_add _ hn
      omega
  rw [bi1_repr, hs, decide_eq_true hd, decide_eq_true hl]
  rfl
theorem sum_put (p : Tab) (b : Str) : ∀ l : List Str, l.Nodup → b ∈ l → (l.map (tget (put p b (tget p b + 1)))).sum = (l.map (tget p)).sum + 1
  | [], _, h => by cases h
  | x :: l, nd, h => by
    have nd' := List.nodup_cons.mp nd
    rw [List.map_cons, List.sum_cons, List.map_cons, List.sum_cons, tget_put]
    rcases List.mem_cons.mp h with e | h
    · subst e
      have e2 : l.map (tget (put p b (tget p b + 1))) = l.map (tget p) := List.map_congr_left fun y hy => by
        rw [tget_put, if_neg (fun (e : b = y) => nd'.1 (by rw [e]; exact hy))]
      rw [if_pos rfl, e2]
      omega
    · rw [if_neg (fun (e : b = x) => nd'.1 (by rw [← e]; exact h)), sum_put p b l nd'.2 h]
      omega
theorem deal_sum {o : Tab} (w : Own o) : ∀ n : Nat, ((tkeys o).map (tget (dealS o n).1)).sum = (n : Int)
  | 0 => by
    refine sum_zero fun x hx => ?_
    show tget ((tkeys o).map fun x => (x, 0)) x = 0
    exact tget_map hx
  | n + 1 => by
    obtain ⟨b, hb, _, e⟩ := deal_step w n
    rw [e]
    show ((tkeys o).map (tget (put (dealS o n).1 b (tget (dealS o n).1 b + 1)))).sum = _
    rw [sum_put _ _ _ w.nd hb, deal_sum w n]
    omega
theorem deal_mono {o : Tab} (w : Own o) (n : Nat) (x : Str) : tget (dealS o n).1 x ≤ tget (dealS o (n + 1)).1 x := by
  obtain ⟨b, hb, _, e⟩ := deal_step w n
  rw [e]
  show _ ≤ tget (put (dealS o n).1 b (tget (dealS o n).1 b + 1)) x
  rw [tget_put]
  split
  · rename_i h; subst h; omega
  · omega
def riseB (cl : PD.Callee) : M Flw := (sq (nxt (bnd (cTuple (evsM [(bnd (argsM [aV (share 0), aV (cNum .Sub (slotO 2) (tmp (ret (0, (.int 1)))))]) fun as => cCall cl "parted_by_turns" as), (bnd (argsM [aV (share 0), aV (share 2)]) fun as => cCall cl "parted_by_turns" as)])) fun v => (untup v [fun v => (store [] 3 v), fun v => (store [] 4 v)])))
    (sq (cIf (tst (xOr (cCmp .NotEq (tmp (cLc (walkO false (slotO 0)) [5] (fun x => (store [] 5 (0, x))) (tst (cCmp .Lt (tmp (cItem (slotO 4) (slotO 5))) (tmp (cItem (slotO 3) (slotO 5))))) (share 5))) (tmp (cList (evsM [])))) (cCmp .NotEq (tmp (cLook "sum" (tmp (cLc (walkO false (slotO 4)) [5] (fun x => (store [] 5 (0, x))) (ret true) (cItem (slotO 4) (slotO 5)))))) (slotO 2))))
      (sq (rt (ret (0, (.bool false))))
      (ret .nx))
      (ret .nx))
    (ret .nx)))
theorem flat_none {γ δ : Type} (l : List γ) : (l.flatMap fun _ => ([] : List δ)) = [] := by
  induction l with
  | nil => rfl
  | cons x l ih => rw [List.flatMap_cons, ih]; rfl
theorem rise_turn (n m : Nat) (o : Tab) (c A : Int) (s3 s4 : PD.Slot) (hA : A = ((m + 1 : Nat) : Int)) (h3 : Sf s3) (h4 : Sf s4) (h : o.length ≤ 1000) (w : Own o) (hm : m + 1 ≤ 1000) :
    wp (riseB (callF P (n + 6))) [.val 0 (.dict (kv o)), .val 0 (.int c), .val 0 (.int A), s3, s4, .dead] (fun f ρ => f = .nx ∧ ∃ s3 s4, Sf s3 ∧ Sf s4 ∧ ρ = [.val 0 (.dict (kv o)), .val 0 (.int c), .val 0 (.int A), s3, s4, .dead]) := by
  have hl : o.length ≤ sizeLine := small_ok (Nat.le_trans h (by decide))
  obtain ⟨k1, _, _⟩ := deal_prt w m
  obtain ⟨k2, _, _⟩ := deal_prt w (m + 1)
  have p1 := parted_ok n o (A - 1) m (by omega) h w (by omega)
  have p2 := parted_ok n o A (m + 1) hA h w hm
  have mono := deal_mono w m
  have sm := deal_sum w (m + 1)
  rw [← hA] at sm
  generalize (dealS o m).1 = d1 at *
  generalize (dealS o (m + 1)).1 = d2 at *
  clear hA
  unfold riseB
  refine wp_seq (ρ1 := [.val 0 (.dict (kv o)), .val 0 (.int c), .val 0 (.int A), .val 1 (.dict (kv d1)), .val 1 (.dict (kv d2)), .dead]) ?_ ?_
  · rcases h3 with rfl | ⟨k, d, rfl⟩ <;> rcases h4 with rfl | ⟨k', d', rfl⟩ <;> simp [p1, p2, lev, minLev]
  have cond : wp (tst (xOr (cCmp .NotEq (tmp (cLc (walkO false (slotO 0)) [5] (fun x => (store [] 5 (0, x))) (tst (cCmp .Lt (tmp (cItem (slotO 4) (slotO 5))) (tmp (cItem (slotO 3) (slotO 5))))) (share 5))) (tmp (cList (evsM [])))) (cCmp .NotEq (tmp (cLook "sum" (tmp (cLc (walkO false (slotO 4)) [5] (fun x => (store [] 5 (0, x))) (ret true) (cItem (slotO 4) (slotO 5)))))) (slotO 2)))) [.val 0 (.dict (kv o)), .val 0 (.int c), .val 0 (.int A), .val 1 (.dict (kv d1)), .val 1 (.dict (kv d2)), .dead]
      (fun t ρ => t = false ∧ ρ = [.val 0 (.dict (kv o)), .val 0 (.int c), .val 0 (.int A), .val 1 (.dict (kv d1)), .val 0 (.dict (kv d2)), .dead]) := by
    rw [wp_tst, wp_xOr]
    simp [items_kv]
    refine wp_compT PyData.str (fun _ => []) rfl _ (fun x hx => ?_) ?_
    · have x1 : x ∈ tkeys d1 := k1 ▸ hx
      have x2 : x ∈ tkeys d2 := k2 ▸ hx
      have := mono x
      have nl : ¬ tget d2 x < tget d1 x := by omega
      simp [item_kv x1, item_kv x2, nl]
    · rw [flat_none]
      have en := eq_nil (xs := []) (fun y hy => nomatch hy)
      simp [cmp_ne, en]
      rw [notO_some, wO_some]
      simp [items_kv]
      refine wp_compT PyData.str (fun x => [(0, PyData.int (tget d2 x))]) rfl _ (fun x hx => ?_) ?_
      · simp [item_kv hx]
      · have e2 : d2.length = o.length := tab_len k2
        have sm' : ((tkeys d2).map (tget d2)).sum = A := by rw [k2]; exact sm
        have eq := refl_eq (d := .int A) (by rfl) (by rw [PyData.depth]; omega)
        simp [bi1_sum, Function.comp_def, allInts_map', e2, hl, cmp_ne]
        rw [sm', decide_eq_true rfl, notO_some, wO_some]
        exact ⟨rfl, rfl⟩
  rw [wp_sq, wp_cIf]
  refine wp_mono cond fun t ρ' e' => ?_
  obtain ⟨et, er⟩ := e'
  subst er et
  rw [if_neg Bool.false_ne_true, wp_ret, wp_ret]
  exact ⟨rfl, _, _, .inr ⟨_, _, rfl⟩, .inr ⟨_, _, rfl⟩, rfl⟩
theorem rises_ok (n m : Nat) (o : Tab) (c : Int) (hc : c = (m : Int)) (h : o.length ≤ 1000) (w : Own o) (hm : 2 ≤ m ∧ m ≤ 1000) : callF P (n + 7) "_law_rises_right" [.val 0 (.dict (kv o)), .val 0 (.int c)] = some (.ok (0, .bool true) [.dead, .dead]) := by
  rw [e_law_rises_right]
  apply outF_eq
  unfold z_law_rises_right
  have hd : numAll .FloorDiv (.int c) (.int 2) = some (0, .int (c / 2)) := num_div ⟨by omega, log_small (by omega)⟩
  have ht := fun m A s3 s4 a b c' d => rise_turn n m o c A s3 s4 a b c' h w d
  unfold riseB at ht
  rw [wp_sq]
  simp only [wp_cFor, wp_walkO, wp_tmp, wp_cList, wp_evsM_cons, wp_evsM_nil, wp_ret, wp_cNum, wp_slotO, rdS_val, List.getElem?_cons_zero, List.getElem?_cons_succ, rdO_val, wO_some, wp_kids_t, wp_kids_s, wKd_val, if_false, hd, wp_share, wSv_val, List.set_cons_zero, List.set_cons_succ, List.length_cons, List.length_nil, Nat.zero_add, Nat.reduceAdd, three_ok, if_true, List.map_cons, List.map_nil, wp_froz_t, items_list, wp_unwalk_nil, show ((2 : Nat) ≤ 0) = False by simp]
  refine wp_forT PyData.int [1, c / 2, c] (fun pre ρ => ∃ s2 s3 s4, Sf s2 ∧ Sf s3 ∧ Sf s4 ∧ ρ = [.val 0 (.dict (kv o)), .val 0 (.int c), s2, s3, s4, .dead]) ⟨_, _, _, .inl rfl, .inl rfl, .inl rfl, rfl⟩ ?_ ?_
  · rintro pre A post ρ e ⟨s2, s3, s4, h2, h3, h4, er⟩
    subst er
    have hA : 1 ≤ A ∧ A ≤ c := by
      have : A ∈ [1, c / 2, c] := by rw [e]; simp
      simp only [List.mem_cons, List.not_mem_nil, or_false] at this
      rcases this with rfl | rfl | rfl <;> omega
    have st : wp (store [] 2 (0, PyData.int A)) [.val 0 (.dict (kv o)), .val 0 (.int c), s2, s3, s4, .dead] (fun _ ρ => ρ = [.val 0 (.dict (kv o)), .val 0 (.int c), .val 0 (.int A), s3, s4, .dead]) := by
      rcases h2 with rfl | ⟨k, d, rfl⟩ <;> simp
    refine wp_mono st fun _ ρ' e' => ?_
    subst e'
    refine wp_mono (ht (A.toNat - 1) A s3 s4 (by omega) h3 h4 (by omega)) fun f ρ2 ⟨ef, t3, t4, g3, g4, er⟩ => ?_
    subst ef er
    exact ⟨_, _, _, .inr ⟨_, _, rfl⟩, g3, g4, rfl⟩
  · rintro ρ ⟨s2, s3, s4, h2, h3, h4, er⟩
    subst er
    simp
end K88
end
section
namespace K88
open PySem PD
theorem cut_1 {α : Type} {l : List α} {i : Int} (hl : l ≠ []) (hi : 1 ≤ i) : cutD l none (some i) ≠ [] := by
  have hp := List.length_pos_iff.mpr hl
  show (l.drop 0).take ((if i < 0 then (max (i + l.length) 0).toNat else (min i l.length).toNat) - 0) ≠ []
  rw [if_neg (by omega)]
  intro e
  have := congrArg List.length e
  simp only [List.length_take, List.length_drop, List.length_nil] at this
  omega
theorem cut_le {α : Type} (l : List α) (lo hi : Option Int) : (cutD l lo hi).length ≤ l.length := by
  unfold cutD
  simp only [List.length_take, List.length_drop]
  omega
theorem lev_5 {a b c d e : Str} {i j k p q : Nat} : lev [(i, .str a), (j, .str b), (k, .str c), (p, .str d), (q, .str e)] = 0 := rfl
theorem nm5_nd : nm5.Nodup := by decide
theorem five_ok : 5 ≤ sizeLine := small_ok (by decide)
theorem own_fin (G M : Slot) (d : PyData) (s : Slot) (R : Flw → Sts → Prop) (h : R (.rt (1, d)) [G, M, .dead, s]) : wp (sq (rt (moveS [0] 2)) (ret .nx)) [G, M, .val 1 d, s] R := by simp [prots, h]
def OwnPost (N : Nat) (f : Flw) (ρ : Sts) : Prop := ∃ (o : Tab) (g' : PyData) (N' : Nat), Own o ∧ o.length ≤ 5 ∧ N' ≤ N + 40 ∧ GenOk N' g' ∧ f = .rt (1, .dict (kv o)) ∧ backOf [true, false] ρ = [.val 1 g', .dead]
theorem owners_ok (n N : Nat) (g : PyData) (m : Int) (hg : GenOk N g) (hN : N ≤ 5000) (hm : 1 ≤ m ∧ m ≤ 1000) : ∃ (o : Tab) (g' : PyData) (N' : Nat), Own o ∧ o.length ≤ 5 ∧ N' ≤ N + 40 ∧ GenOk N' g' ∧ callF P (n + 4) "_law_owners" [.val 1 g, .val 0 (.int m)] = some (.ok (1, .dict (kv o)) [.val 1 g', .dead]) := by
  obtain ⟨l, g1, hp, h1, e1⟩ := drawn_ok n N g nm5 hg (by omega) (by decide)
  obtain ⟨r, g2, a2, b2, h2, e2⟩ := random_ok (n + 1) (N + nm5.length) g1 m h1 (by show N + 5 ≤ _; omega) hm
  have hlen : l.length = 5 := hp.length_eq
  have hne : l ≠ [] := fun e => by rw [e] at hlen; cases hlen
  generalize hks : cutD l none (some (1 + r)) = ks
  have k1 : ks ≠ [] := hks ▸ cut_1 hne (by omega)
  have k2 : ks.length ≤ 5 := by have := cut_le l none (some (1 + r)); rw [hks] at this; omega
  have k3 : ks.Nodup := hks ▸ cut_nodup _ _ (hp.nodup_iff.mpr nm5_nd)
  have k4 : ∀ x ∈ ks, x ∈ nm5 := fun x hx => hp.mem_iff.mp (cut_sub (hks ▸ hx))
  have hl := own_loop n (N + nm5.length + 1) g2 m ks h2 (by show N + 5 + 1 ≤ _; omega) (by omega) k3
  have key : wp (z_law_owners (callF P (n + 3))) [.val 1 g, .val 0 (.int m), .dead, .dead] (OwnPost N) := by
    rw [z_own_eq]
    refine wp_seq (ρ1 := [.val 1 g, .val 0 (.int m), .val 1 (.dict []), .dead]) ?_ ?_
    · simp [prots]
    have hcut : cutD (l.map PyData.str) none (some (1 + r)) = ks.map PyData.str := by rw [cut_map, hks]
    have e1' : callF P (n + 3) "_law_drawn_order" [.val 1 g, .val 1 (.list [.str "ann", .str "b10", .str "b2", .str "cy", .str "di"])] = some (.ok (1, .list (l.map PyData.str)) [.val 1 g1, .dead]) := e1
    generalize ownB (callF P (n + 3)) = B at hl ⊢
    have hS := fun N g o s a b c d => ownS_ok n N g m o s a b c d
    generalize ownS (callF P (n + 3)) = S at hS ⊢
    have hT := fun g o s a b => ownT_ok g m o s a b
    generalize ownT 0 = T at hT ⊢
    rw [wp_sq]
    simp [five_ok, lev_5, e1', e2, sliceOf, hcut, items_list]
    refine wp_mono hl fun f ρ1 ⟨ef, o, g3, s, ek, hv, hg3, hs, er⟩ => ?_
    subst ef er
    have ho : o.length ≤ 5 := by rw [← tkeys_len, ek]; exact k2
    have nd : (tkeys o).Nodup := ek ▸ k3
    have nm : ∀ x ∈ tkeys o, x ∈ nm5 := fun x hx => k4 x (ek ▸ hx)
    have ge : ∀ x ∈ tkeys o, 0 ≤ tget o x ∧ tget o x ≤ 9 := fun x hx => hv x (ek ▸ hx)
    have hNN : N + nm5.length + 1 + 4 * ks.length ≤ N + 26 := by
      show N + 5 + 1 + 4 * ks.length ≤ N + 26
      omega
    show wp (sq _ _) _ _
    rw [wp_sq, wp_cIf]
    refine wp_mono (hT g3 o s (by omega) hs) fun b ρ2 ⟨eb, s', er⟩ => ?_
    subst eb er
    by_cases h0 : sumT o = 0
    · rw [if_pos (decide_eq_true h0)]
      refine wp_mono (hS _ g3 o s' hg3 (by omega) (by omega) (ek ▸ k1)) fun f ρ3 ⟨ef, x, v, g4, hx, v1, v2, hg4, er⟩ => ?_
      subst ef er
      refine own_fin _ _ _ _ _ ?_
      refine ⟨put o x v, g4, _, own_put nd nm ge hx ⟨v1, v2⟩, ?_, ?_, hg4, rfl, rfl⟩
      · rw [← tkeys_len, put_keys hx, tkeys_len]
        exact ho
      · omega
    · rw [if_neg (by rw [decide_eq_false h0]; exact Bool.false_ne_true)]
      rw [wp_ret]
      refine own_fin _ _ _ _ _ ?_
      exact ⟨o, g3, _, own_of nd nm ge h0, ho, by omega, hg3, rfl, rfl⟩
  rw [e_law_owners]
  obtain ⟨f, ρ', e, o, g', N', q1, q2, q3, q4, rfl, q5⟩ := wp_def.mp key
  rw [e]
  exact ⟨o, g', N', q1, q2, q3, q4, by unfold outF; rw [← q5]⟩
end K88
end
section
namespace K88
open PySem PD
@[simp] theorem is_sb (x : Str) (b : Bool) : cmpOp .Is (.str x) (.bool b) = some false := by kernel_rfl
@[simp] theorem is_ib (x : Int) (b : Bool) : cmpOp .Is (.int x) (.bool b) = some false := by kernel_rfl
@[simp] theorem is_lb (x : List PyData) (b : Bool) : cmpOp .Is (.list x) (.bool b) = some false := by kernel_rfl
@[simp] theorem is_tb (x : List PyData) (b : Bool) : cmpOp .Is (.tuple x) (.bool b) = some false := by kernel_rfl
theorem exact_str (n k l : Nat) (x : Str) : callF P (n + 1) "_law_exact" [.val k (.str x), .val l (.str x)] = some (.ok (0, .bool true) [.val k (.str x), .val l (.str x)]) := by
  rw [e_law_exact]
  apply outF_eq
  unfold z_law_exact
  simp
theorem exact_int (n k l : Nat) (i : Int) : callF P (n + 1) "_law_exact" [.val k (.int i), .val l (.int i)] = some (.ok (0, .bool true) [.val k (.int i), .val l (.int i)]) := by
  rw [e_law_exact]
  apply outF_eq
  unfold z_law_exact
  simp
theorem marked_str (n k : Nat) (x : Str) : callF P (n + 1) "_law_marked" [.val k (.str x)] = some (.ok (0, .bool true) [.val k (.str x)]) := by
  rw [e_law_marked]
  apply outF_eq
  unfold z_law_marked
  simp
theorem marked_int (n k : Nat) (x : Int) : callF P (n + 1) "_law_marked" [.val k (.int x)] = some (.ok (0, .bool true) [.val k (.int x)]) := by
  rw [e_law_marked]
  apply outF_eq
  unfold z_law_marked
  simp
theorem zip_self (f : PyData → PyData → PyData) : ∀ xs : List PyData, List.zipWith f xs xs = xs.map fun x => f x x
  | [] => rfl
  | x :: xs => by rw [List.zipWith_cons_cons, zip_self f xs]; rfl
theorem bi1_len_tuple (xs : List PyData) : bi1 "len" (.tuple xs) = some (0, .int xs.length) := by kernel_rfl
theorem notin_tt (xs : List PyData) : cmpOp .NotIn (.bool false) (.list (xs.map fun _ => .bool true)) = some true := by
  have := notin_bools (xs.map fun _ => true)
  rw [List.map_map] at this
  refine this.trans ?_
  congr 1
  induction xs with
  | nil => rfl
  | cons x xs ih => exact ih (by
      have := notin_bools (xs.map fun _ => true)
      rw [List.map_map] at this
      exact this)
theorem flatMap_tt (xs : List PyData) : (xs.flatMap fun _ => [((0 : Nat), PyData.bool true)]) = xs.map fun _ => (0, PyData.bool true) := flatMap_one _ xs
def ExT (n : Nat) (x : PyData) : Prop := callF P n "_law_exact" [.val 0 x, .val 0 x] = some (.ok (0, .bool true) [.val 0 x, .val 0 x])
def MkT (n : Nat) (x : PyData) : Prop := callF P n "_law_marked" [.val 0 x] = some (.ok (0, .bool true) [.val 0 x])
theorem exact_kids (n : Nat) (xs : List PyData) (s0 s1 : Slot) (h : ∀ x ∈ xs, ExT n x) (Q : List Vl → Sts → Prop) (hQ : Q (xs.map fun _ => (0, PyData.bool true)) [s0, s1, .dead, .dead]) : wp (compM [2, 3] (fun x =>
                  bnd (untup (0, x) [fun v => store [] 2 v, fun v => store [] 3 v]) fun x =>
                    bnd (ret true) fun b =>
                      if b = true then
                        bnd (bnd (argsM [aL 2, aL 3]) fun as => cCall (callF P n) "_law_exact" as)
                          fun v => ret [v]
                      else ret []) (xs.map fun x => .tuple [x, x])) [s0, s1, .dead, .dead] Q := by
  refine wp_compT (fun x => PyData.tuple [x, x]) (fun _ => [(0, PyData.bool true)]) rfl _ (fun x hx => ?_) ?_
  · have := h x hx
    unfold ExT at this
    simp [this]
  · rw [flatMap_tt]
    exact hQ
theorem marked_kids (n : Nat) (xs : List PyData) (s0 s1 : Slot) (h : ∀ x ∈ xs, MkT n x) (Q : List Vl → Sts → Prop) (hQ : Q (xs.map fun _ => (0, PyData.bool true)) [s0, s1, .dead]) : wp (compM [2] (fun x =>
                  bnd (store [] 2 (0, x)) fun x =>
                    bnd (ret true) fun b =>
                      if b = true then
                        bnd (bnd (argsM [aL 2]) fun as => cCall (callF P n) "_law_marked" as)
                          fun v => ret [v]
                      else ret []) xs) [s0, s1, .dead] Q := by
  refine wp_compM (fun _ => [(0, PyData.bool true)]) rfl _ (fun x hx => ?_) ?_
  · have := h x hx
    unfold MkT at this
    simp [this]
  · rw [flatMap_tt]
    exact hQ
theorem wp_unwalk_two {xs : List PyData} {lk : Bool} {a b : PyData} {r : Sts} {Q : Unit → Sts → Prop} : wp (unwalk ⟨xs, [0, 1], lk⟩) (.ro a :: .ro b :: r) Q = Q () (.val 1 a :: .val 1 b :: r) := by
  unfold wp
  rfl
theorem exact_list (n k l : Nat) (xs : List PyData) (hl : xs.length ≤ 1000000) (h : ∀ x ∈ xs, ExT n x) : callF P (n + 1) "_law_exact" [.val (k + 1) (.list xs), .val (l + 1) (.list xs)] = some (.ok (0, .bool true) [.val 1 (.list xs), .val 1 (.list xs)]) := by
  rw [e_law_exact]
  apply outF_eq
  unfold z_law_exact
  simp [bi1_len_list, zipD, zip_self]
  refine exact_kids n xs _ _ h _ ?_
  simp [small_ok hl, Function.comp_def, notin_tt, wp_unwalk_two]
theorem exact_tup (n : Nat) (xs : List PyData) (hl : xs.length ≤ 1000000) (h : ∀ x ∈ xs, ExT n x) : ExT (n + 1) (.tuple xs) := by
  unfold ExT
  rw [e_law_exact]
  apply outF_eq
  unfold z_law_exact
  simp [bi1_len_tuple, zipD, zip_self]
  refine exact_kids n xs _ _ h _ ?_
  simp [small_ok hl, Function.comp_def, notin_tt]
theorem marked_tup (n : Nat) (xs : List PyData) (hl : xs.length ≤ 1000000) (h : ∀ x ∈ xs, MkT n x) : MkT (n + 1) (.tuple xs) := by
  unfold MkT
  rw [e_law_marked]
  apply outF_eq
  unfold z_law_marked
  simp [itemsD]
  refine marked_kids n xs _ _ h _ ?_
  simp [small_ok hl, Function.comp_def, notin_tt]
end K88
end
section
namespace K88
open PySem PD
theorem item_last' (xs : List PyData) (h : xs ≠ []) : itemOf (.list xs) (.int (-1)) = some (xs.getLast h) := by
  show atD xs (-1) = _
  have hp : 0 < xs.length := List.length_pos_iff.mpr h
  unfold atD
  rw [if_neg (by decide), if_pos (by omega), show (-1 + (xs.length : Int)).toNat = xs.length - 1 by omega, List.getLast_eq_getElem, List.getElem?_eq_getElem (by omega)]
theorem ne_nil0 : cmpOp .NotEq (.list []) (.list []) = some false := by kernel_rfl
theorem marked_list (n k : Nat) (xs : List PyData) (hl : xs.length ≤ 999999) (h : ∀ x ∈ xs, MkT n x) (hp : ∀ y ∈ xs, y.plain = true) (hm : ∀ y ∈ xs, imm y = true ∧ cmpOp .Eq y (.str "marked") = some false) : callF P (n + 1) "_law_marked" [.val (k + 1) (.list xs)] = some (.ok (0, .bool true) [.val 1 (.list (xs ++ [.str "marked"]))]) := by
  rw [e_law_marked]
  apply outF_eq
  unfold z_law_marked
  cases xs with
  | nil =>
    simp [items_list, ne_nil0]
    refine marked_kids n [] _ _ (fun x hx => nomatch hx) _ ?_
    have := notin_tt []
    rw [List.map_nil] at this
    simp [setKid, this]
    exact ⟨rfl, rfl, small_lt (by decide)⟩
  | cons x xs =>
    have e := item_last' (x :: xs) (by simp)
    have hx := hm _ (List.getLast_mem (l := x :: xs) (by simp))
    generalize (x :: xs).getLast _ = y at e hx
    have ne := eq_nil hp
    have hk := fun Q q => marked_kids n (x :: xs) (.ro (.list (x :: xs))) .dead h Q q
    obtain ⟨y1, y2⟩ := hx
    have nil0 : (x :: xs).isEmpty = false := rfl
    rw [nil0] at ne
    have hl' : (x :: xs).length < sizeLine := small_lt (by omega)
    clear h hp hm
    generalize x :: xs = zs at *
    simp [items_list, cmp_ne, ne, e, y1, y2]
    rw [notO_some, wO_some]
    simp [items_list, cmp_ne, ne, e, y1, y2]
    refine hk _ ?_
    have hl2 : zs.length ≤ sizeLine := small_ok (by omega)
    simp [setKid, notin_tt, hl', hl2, Function.comp_def]
    exact ⟨rfl, rfl⟩
end K88
end
section
namespace K88
open PySem PD
theorem cell_ok (n : Nat) (ns : List Int) (i : Nat) (hi : i ≤ 2) (hl : ns.length ≤ 63) : ∃ v : Int, callF P (n + 1) "_law_cell" [.val 0 (.list (ns.map PyData.int)), .val 0 (.int (i : Int))] = some (.ok (0, .int v) [.dead, .dead]) := by
  rw [e_law_cell]
  by_cases h : i < ns.length
  · refine ⟨ns[i], ?_⟩
    apply outF_eq
    unfold z_law_cell
    have e : itemOf (.list (ns.map PyData.int)) (.int (i : Int)) = some (.int ns[i]) := by
      show atD (ns.map PyData.int) (i : Int) = _
      unfold atD
      rw [if_pos (by omega), Int.toNat_natCast, List.getElem?_map, List.getElem?_eq_getElem h]
      rfl
    generalize hI : (i : Int) = I at e ⊢
    have lt : (I < (ns.length : Int)) = True := eq_true (by omega)
    simp [bi1_len_list, lt, e, backOf, imm]
  · have hI : ¬ ((i : Int) < (ns.length : Int)) := by omega
    refine ⟨(cutD ns none (some 1)).sum % 1000003, ?_⟩
    apply outF_eq
    unfold z_law_cell
    generalize (i : Int) = I at hI ⊢
    have e2 : cutD (ns.map PyData.int) none (some 1) = (cutD ns none (some 1)).map PyData.int := cut_map _ _ _ _
    simp [bi1_len_list, hI, sliceOf, e2, bi1_sum, allInts_map, num_mod (j := 1000003) (by decide), backOf]
end K88
end
section
namespace K88
open PySem PD
theorem pow_a : numAll .Pow (.int 10) (.int 18) = some (0, .int (10 ^ 18)) := by kernel_rfl
theorem pow_b : numAll .Pow (.int 10) (.int 60) = some (0, .int (10 ^ 60)) := by kernel_rfl
theorem pow_c : numAll .Pow (.int (10 ^ 60)) (.int 10) = some (0, .int big) := by kernel_rfl
theorem max_a (i j : Int) : ∃ m, (m = i ∨ m = j) ∧ bi2 "max" (.int i) (.int j) = some (0, .int m) := by
  refine ⟨if j > i then j else i, ?_, ?_⟩
  · by_cases h : j > i
    · right; rw [if_pos h]
    · left; rw [if_neg h]
  · kernel_rfl
theorem big_pos : 0 < big := by decide
theorem generator_ok (n : Nat) (ns : List Int) (i : Nat) (hi : i ≤ 2) (hl : ns.length ≤ 63) : ∃ g, GenOk 2000 g ∧ callF P (n + 2) "_law_generator" [.val 0 (.list (ns.map PyData.int)), .val 0 (.int (i : Int))] = some (.ok (1, g) [.dead, .dead]) := by
  obtain ⟨v, e⟩ := cell_ok n ns i hi hl
  obtain ⟨m, _, em⟩ := max_a (v - 10 ^ 18) 0
  have c0 : (0 : Int) ≤ 1000 * (i : Int) := by omega
  have c1 : 1000 * (i : Int) ≤ ((2000 : Nat) : Int) := by omega
  have m1 : mulOk 1000 (i : Int) = true := mul_small (a := 1000) (b := (i : Int)) (by omega) (by omega)
  generalize (i : Int) = I at *
  generalize PyData.list (ns.map PyData.int) = L at *
  refine ⟨gen (m % big) (v % 2147483647) (1000 * I), ⟨_, _, _, rfl, Int.emod_nonneg _ (Int.ne_of_gt big_pos), Int.emod_lt_of_pos _ big_pos, Int.emod_nonneg _ (by omega), Int.emod_lt_of_pos _ (by omega), c0, c1⟩, ?_⟩
  rw [e_law_generator]
  apply outF_eq
  unfold z_law_generator
  have q := pow_c
  have bp := big_pos
  have pa := pow_a
  have pb := pow_b
  generalize big = B at *
  generalize (10 : Int) ^ 18 = A at *
  generalize (10 : Int) ^ 60 = C at *
  simp [e, em, bi1_int, num_mod (i := m) bp, num_mod (i := v) (j := 2147483647) (by decide), num_mul m1, pa, pb, q, three_ok, lev_3, backOf, gen]
end K88
end
section
namespace K88
open PySem PD
@[simp] theorem ty_dict_dict {l : List (PyData × PyData)} : isTys ["dict"] (.dict l) = some true := by kernel_rfl
/-- a slot for a name: nothing of one's own -/
def Sp (s : PD.Slot) : Prop := s = .dead ∨ ∃ d, s = .val 0 d
theorem Sp.sf {s : PD.Slot} (h : Sp s) : Sf s := by
  rcases h with h | ⟨d, h⟩
  · exact .inl h
  · exact .inr ⟨_, _, h⟩
theorem deal_prt' {o : Tab} (w : Own o) (m : Nat) (hm : m ≤ 1000) : Prt o (dealS o m).1 := by
  obtain ⟨k1, k2, k3⟩ := deal_prt w m
  exact ⟨k1, fun x hx => by have := k2 x hx; omega⟩
def stA (cl : PD.Callee) : M Flw := (cIf (tst (cCmp .Gt (slotO 2) (tmp (ret (0, (.int 0))))))
      (sq (nxt (bnd (bnd (argsM [aV (share 4), aL 7]) fun as => cCall cl "_law_best" as) fun v => (store [0] 11 v)))
      (sq (nxt (bnd (cAdd (tmp (cItem (slotO 7) (slotO 11))) (tmp (ret (0, (.int 1))))) fun v => bnd (slotO 7) fun _ => bnd (slotO 11) fun o => bnd (peek o) fun di => mSet 7 di v))
      (sq (dp (bnd (isKind PyData.isList (.s 8)) fun _ => bnd (share 11) fun v => mAppend 8 v))
      (ret .nx))))
      (ret .nx))
theorem stA_0 (cl : PD.Callee) (G F s3 O C K p r s9 s10 s11 s12 : PD.Slot) (Q : Flw → Sts → Prop) (hQ : Q .nx [G, F, .val 0 (.int 0), s3, O, C, K, p, r, s9, s10, s11, s12]) : wp (stA cl) [G, F, .val 0 (.int 0), s3, O, C, K, p, r, s9, s10, s11, s12] Q := by
  unfold stA
  rw [wp_cIf]
  simp [hQ]
theorem stA_1 (n m : Nat) (A : Int) (o : Tab) (hA : A = ((m + 1 : Nat) : Int)) (h : o.length ≤ 1000) (w : Own o) (hm : m + 1 ≤ 1000) (G F s3 C K s9 s10 s11 s12 : PD.Slot) (h11 : Sp s11) (Q : Flw → Sts → Prop)
    (hQ : ∀ b : Str, Q .nx [G, F, .val 0 (.int A), s3, .val 0 (.dict (kv o)), C, K, .val 1 (.dict (kv (dealS o (m + 1)).1)), .val 1 (.list ((dealS o (m + 1)).2.map PyData.str)), s9, s10, .val 0 (.str b), s12]) :
    wp (stA (callF P (n + 1))) [G, F, .val 0 (.int A), s3, .val 0 (.dict (kv o)), C, K, .val 1 (.dict (kv (dealS o m).1)), .val 1 (.list ((dealS o m).2.map PyData.str)), s9, s10, s11, s12] Q := by
  have hl2 : o.length < sizeLine := small_lt (Nat.lt_of_le_of_lt h (by decide))
  obtain ⟨k1, k2, k3⟩ := deal_prt w m
  obtain ⟨b, hb, hf, he⟩ := deal_step w m
  have pl := tab_len k1
  have q := deal_prt' w m (by omega)
  have pb : b ∈ tkeys (dealS o m).1 := k1 ▸ hb
  have nx := best_ok n 1 o (dealS o m).1 b h w q hf
  have l3 : (dealS o m).2.length < sizeLine := small_lt (by omega)
  have hp : 0 < A := by omega
  have hQ := hQ b
  rw [he] at hQ
  generalize dealS o m = D at *
  clear hA he
  unfold stA
  rw [wp_cIf]
  have c1 : wp (tst (cCmp .Gt (slotO 2) (tmp (ret (0, (.int 0)))))) [G, F, .val 0 (.int A), s3, .val 0 (.dict (kv o)), C, K, .val 1 (.dict (kv D.1)), .val 1 (.list (D.2.map PyData.str)), s9, s10, s11, s12] (fun t ρ => t = true ∧ ρ = [G, F, .val 0 (.int A), s3, .val 0 (.dict (kv o)), C, K, .val 1 (.dict (kv D.1)), .val 1 (.list (D.2.map PyData.str)), s9, s10, s11, s12]) := by
    simp [hp]
  refine wp_mono c1 fun t ρ e => ?_
  obtain ⟨e1, e2⟩ := e
  subst e1 e2
  rw [if_pos rfl]
  refine wp_seq (ρ1 := [G, F, .val 0 (.int A), s3, .val 0 (.dict (kv o)), C, K, .val 1 (.dict (kv D.1)), .val 1 (.list (D.2.map PyData.str)), s9, s10, .val 0 (.str b), s12]) ?_ ?_
  · rcases h11 with rfl | ⟨d, rfl⟩ <;> simp [nx, prots]
  refine wp_seq (ρ1 := [G, F, .val 0 (.int A), s3, .val 0 (.dict (kv o)), C, K, .val 1 (.dict (kv (put D.1 b (tget D.1 b + 1)))), .val 1 (.list (D.2.map PyData.str)), s9, s10, .val 0 (.str b), s12]) ?_ ?_
  · simp [item_kv pb, keyOk_kv, pl, hl2, setKid, dput_kv]
  · simp [PyData.isList, l3, setKid]
    simpa using hQ
def stB (cl : PD.Callee) : M Flw := (nxt (bnd (bnd (argsM [aV (share 4), aV (share 2)]) fun as => cCall cl "_law_rests" as) fun v => (store [0] 10 v)))
theorem stB_ok (n : Nat) (A : Int) (o : Tab) (h : o.length ≤ 1000) (w : Own o) (hA : 0 ≤ A ∧ A ≤ 1000) (G F s3 C K p r s9 s10 s11 s12 : PD.Slot) (h10 : Sf s10) (Q : Flw → Sts → Prop)
    (hQ : Q .nx [G, F, .val 0 (.int A), s3, .val 0 (.dict (kv o)), C, K, p, r, s9, .val 1 (.dict (kv (br o A))), s11, s12]) :
    wp (stB (callF P (n + 1))) [G, F, .val 0 (.int A), s3, .val 0 (.dict (kv o)), C, K, p, r, s9, s10, s11, s12] Q := by
  have e := rests_ok n o A h w hA
  unfold stB
  rcases h10 with rfl | ⟨k, d, rfl⟩ <;> simp [e, prots, hQ]
def stC : M Flw := (cIf (tst (cCmp .Gt (slotO 2) (tmp (ret (0, (.int 0))))))
      (sq (nxt (bnd (cAdd (slotO 1) (tmp (cLc (walkO false (tmp (cMake "sorted" (slotO 4)))) [11] (fun x => (store [] 11 (0, x))) (tst (cCmp .Lt (tmp (cItem (slotO 10) (slotO 11))) (tmp (cItem (slotO 9) (slotO 11))))) (cTuple (evsM [(share 2), (share 11)]))))) fun v => (store [0] 1 v)))
      (ret .nx))
      (ret .nx))
theorem stC_0 (G F s3 O C K p r s9 s10 s11 s12 : PD.Slot) (Q : Flw → Sts → Prop) (hQ : Q .nx [G, F, .val 0 (.int 0), s3, O, C, K, p, r, s9, s10, s11, s12]) : wp stC [G, F, .val 0 (.int 0), s3, O, C, K, p, r, s9, s10, s11, s12] Q := by
  unfold stC
  rw [wp_cIf]
  simp [hQ]
theorem stC_1 (m : Nat) (A : Int) (o : Tab) (hA : A = ((m + 1 : Nat) : Int)) (h : o.length ≤ 8) (w : Own o) (hm : m + 1 ≤ 1000) (G s3 C K p r s12 : PD.Slot) (b : Str) (Q : Flw → Sts → Prop)
    (hQ : Q .nx [G, .val 1 (.list (fallS o (m + 1))), .val 0 (.int A), s3, .val 0 (.dict (kv o)), C, K, p, r, .val 0 (.dict (kv (br o (A - 1)))), .val 1 (.dict (kv (br o A))), .val 0 (.str b), s12]) :
    wp stC [G, .val 1 (.list (fallS o m)), .val 0 (.int A), s3, .val 0 (.dict (kv o)), C, K, p, r, .val 0 (.dict (kv (br o (A - 1)))), .val 1 (.dict (kv (br o A))), .val 0 (.str b), s12] Q := by
  have hp : 0 < A := by omega
  have ef : fallS o m ++ fallA o A = fallS o (m + 1) := by rw [hA]; rfl
  have l1 := fallS_len o m
  have l2 := fallA_len o A
  have l3 : m * o.length ≤ 1000 * 8 := Nat.mul_le_mul (by omega) h
  have l4 : ((ks o).filter fun x => decide (brF o A x < brF o (A - 1) x)).length ≤ sizeLine := by
    have : (fallA o A).length = ((ks o).filter fun x => decide (brF o A x < brF o (A - 1) x)).length := by unfold fallA; rw [List.length_map]
    exact small_ok (by omega)
  have al := add_list (xs := fallS o m) (ys := fallA o A) (by omega)
  clear hA l1 l2 l3
  unfold stC
  rw [wp_cIf]
  have c1 : wp (tst (cCmp .Gt (slotO 2) (tmp (ret (0, (.int 0)))))) [G, .val 1 (.list (fallS o m)), .val 0 (.int A), s3, .val 0 (.dict (kv o)), C, K, p, r, .val 0 (.dict (kv (br o (A - 1)))), .val 1 (.dict (kv (br o A))), .val 0 (.str b), s12] (fun t ρ => t = true ∧ ρ = [G, .val 1 (.list (fallS o m)), .val 0 (.int A), s3, .val 0 (.dict (kv o)), C, K, p, r, .val 0 (.dict (kv (br o (A - 1)))), .val 1 (.dict (kv (br o A))), .val 0 (.str b), s12]) := by
    simp [hp]
  refine wp_mono c1 fun t ρ e => ?_
  obtain ⟨e1, e2⟩ := e
  subst e1 e2
  rw [if_pos rfl]
  refine wp_seq (ρ1 := [G, .val 1 (.list (fallS o (m + 1))), .val 0 (.int A), s3, .val 0 (.dict (kv o)), C, K, p, r, .val 0 (.dict (kv (br o (A - 1)))), .val 1 (.dict (kv (br o A))), .val 0 (.str b), s12]) ?_ ?_
  · simp [sorted_kv o (by omega), items_list]
    refine wp_compT PyData.str (fun x => if decide (brF o A x < brF o (A - 1) x) = true then [(1, PyData.tuple [.int A, .str x])] else []) rfl _ (fun x hx => ?_) ?_
    · have hx := ks_mem.mp hx
      have h1 : x ∈ tkeys (br o A) := br_keys o A ▸ hx
      have h2 : x ∈ tkeys (br o (A - 1)) := br_keys o (A - 1) ▸ hx
      simp [item_kv h1, item_kv h2, br_get hx]
    · have el : (((ks o).filter fun x => decide (brF o A x < brF o (A - 1) x)).map fun x => ((1 : Nat), PyData.tuple [.int A, .str x])).map (·.2) = fallA o A := by
        rw [List.map_map]
        rfl
      rw [flat_filter]
      rw [if_pos (by rw [List.length_map]; exact l4)]
      rw [el]
      simp [al, ef, prots]
  · simp [hQ]
def stD : M Flw := (nxt (bnd (share 10) fun v => (store [0] 9 v)))
theorem stD_ok (k10 : Nat) (d10 : PyData) (G F a s3 O C K p r s9 s11 s12 : PD.Slot) (h9 : Sf s9) (Q : Flw → Sts → Prop)
    (hQ : Q .nx [G, F, a, s3, O, C, K, p, r, .val 0 d10, .val 0 d10, s11, s12]) : wp stD [G, F, a, s3, O, C, K, p, r, s9, .val k10 d10, s11, s12] Q := by
  unfold stD
  rcases h9 with rfl | ⟨k, d, rfl⟩ <;> simp [prots, hQ]
end K88
end
section
namespace K88
open PySem PD
theorem four_ok : (4 ≤ sizeLine) = True := eq_true (small_ok (by decide))
theorem lev_4 {a b c d : Int} {i j k l : Nat} : lev [(i, .int a), (j, .int b), (k, .int c), (l, .int d)] = 0 := rfl
theorem deal_names {o : Tab} (w : Own o) : ∀ n, ∀ x ∈ (dealS o n).2, x ∈ tkeys o
  | 0, x, h => nomatch h
  | n + 1, x, h => by
    obtain ⟨b, hb, _, e⟩ := deal_step w n
    rw [e] at h
    rcases List.mem_append.mp h with h | h
    · exact deal_names w n x h
    · rw [List.mem_singleton.mp h]; exact hb
theorem nm_mark : nms.all (fun x => match cmpOp .Eq (.str x) (.str "marked") with
  | some false => true
  | _ => false) = true := by decide +kernel
theorem nm_not {x : Str} (h : x ∈ nms) : cmpOp .Eq (.str x) (.str "marked") = some false := by
  have := List.all_eq_true.mp nm_mark x h
  split at this
  · assumption
  · cases this
theorem ex_strs (n : Nat) (l : List Str) : ∀ x ∈ l.map PyData.str, ExT (n + 1) x := fun x hx => by
  obtain ⟨y, _, rfl⟩ := List.mem_map.mp hx
  exact exact_str n 0 0 y
theorem mk_strs (n : Nat) (l : List Str) : ∀ x ∈ l.map PyData.str, MkT (n + 1) x := fun x hx => by
  obtain ⟨y, _, rfl⟩ := List.mem_map.mp hx
  exact marked_str n 0 y
theorem strs_plain_depth (l : List Str) : PyData.depthAll (l.map PyData.str) = 0 := by
  induction l with
  | nil => rfl
  | cons x l ih => rw [List.map_cons, PyData.depthAll, ih]; rfl
theorem strs_eq (l : List Str) : cmpOp .Eq (.list (l.map PyData.str)) (.list (l.map PyData.str)) = some true := by
  refine refl_eq ?_ ?_
  · rw [PyData.plain]; exact plainAll_mem str_plain
  · rw [PyData.depth, strs_plain_depth]; omega
def stE (cl : PD.Callee) : M Flw := (cIf (tst (cCmp .In (slotO 2) (tmp (cList (evsM [(ret (0, (.int 0))), (ret (0, (.int 1))), (cNum .FloorDiv (slotO 5) (tmp (ret (0, (.int 2))))), (share 5)])))))
      (sq (nxt (bnd (evsM [(bnd (argsM [aV (share 4), aV (share 2)]) fun as => cCall cl "parted_by_turns" as), (bnd (argsM [aV (share 4), aV (share 2)]) fun as => cCall cl "dealt_row" as)]) fun vs => stoM [fun v => (store [0] 3 v), fun v => (store [0] 12 v)] vs))
      (sq (cIf (tst (xOr (cNot (cIsi (slotO 3) ["dict"])) (xOr (cCmp .NotEq (slotO 3) (slotO 7)) (xOr (cNot (bnd (argsM [aL 12, aL 8]) fun as => cCall cl "_law_exact" as)) (cNot (bnd (argsM [aL 12]) fun as => cCall cl "_law_marked" as))))))
        (sq (rt (ret (0, (.bool false))))
        (ret .nx))
        (ret .nx))
      (sq (cIf (tst (xOr (cCmp .NotEq (tmp (bnd (argsM [aV (share 2), aV (share 4)]) fun bs => callI cl "parted_by_turns" [1, 0] bs)) (slotO 7)) (cCmp .NotEq (tmp (bnd (argsM [aV (share 2), aV (share 4)]) fun bs => callI cl "dealt_row" [1, 0] bs)) (slotO 8))))
        (sq (rt (ret (0, (.bool false))))
        (ret .nx))
        (ret .nx))
      (ret .nx))))
      (ret .nx))
theorem stE_ok (n m : Nat) (A c : Int) (o : Tab) (hA : A = (m : Int)) (hc : 0 ≤ c ∧ c ≤ 1000) (h : o.length ≤ 1000) (w : Own o) (hm : m ≤ 1000) (G F s3 K s9 s10 s11 s12 : PD.Slot) (h3 : Sf s3) (h12 : Sf s12) (Q : Flw → Sts → Prop)
    (hQ : ∀ s3 s12, Sf s3 → Sf s12 → Q .nx [G, F, .val 0 (.int A), s3, .val 0 (.dict (kv o)), .val 0 (.int c), K, .val 1 (.dict (kv (dealS o m).1)), .val 1 (.list ((dealS o m).2.map PyData.str)), s9, s10, s11, s12]) :
    wp (stE (callF P (n + 6))) [G, F, .val 0 (.int A), s3, .val 0 (.dict (kv o)), .val 0 (.int c), K, .val 1 (.dict (kv (dealS o m).1)), .val 1 (.list ((dealS o m).2.map PyData.str)), s9, s10, s11, s12] Q := by
  obtain ⟨k1, _, k3⟩ := deal_prt w m
  have nmD := deal_names w m
  have p1 := parted_ok n o A m hA h w hm
  have p2 := dealt_ok n o A m hA h w hm
  have te := tab_eq (dealS o m).1 (by rw [k1]; exact w.nd)
  have re := strs_eq (dealS o m).2
  have x1 := exact_list (n + 5) 0 0 ((dealS o m).2.map PyData.str) (by rw [List.length_map]; omega) (ex_strs _ _)
  have x2 := marked_list (n + 5) 0 ((dealS o m).2.map PyData.str) (by rw [List.length_map]; omega) (mk_strs _ _) str_plain (fun y hy => by
    obtain ⟨x, hx, rfl⟩ := List.mem_map.mp hy
    exact ⟨rfl, nm_not (w.nm x (nmD x hx))⟩)
  have hd : numAll .FloorDiv (.int c) (.int 2) = some (0, .int (c / 2)) := num_div ⟨by omega, log_small (by omega)⟩
  have hin := in_ints A [0, 1, c / 2, c]
  simp only [List.map_cons, List.map_nil] at hin
  generalize dealS o m = D at *
  clear hA nmD k1 k3
  generalize decide (A ∈ [0, 1, c / 2, c]) = t at hin
  unfold stE
  rw [wp_cIf]
  have c1 : wp (tst (cCmp .In (slotO 2) (tmp (cList (evsM [(ret (0, (.int 0))), (ret (0, (.int 1))), (cNum .FloorDiv (slotO 5) (tmp (ret (0, (.int 2))))), (share 5)]))))) [G, F, .val 0 (.int A), s3, .val 0 (.dict (kv o)), .val 0 (.int c), K, .val 1 (.dict (kv D.1)), .val 1 (.list (D.2.map PyData.str)), s9, s10, s11, s12] (fun t' ρ => t' = t ∧ ρ = [G, F, .val 0 (.int A), s3, .val 0 (.dict (kv o)), .val 0 (.int c), K, .val 1 (.dict (kv D.1)), .val 1 (.list (D.2.map PyData.str)), s9, s10, s11, s12]) := by
    simp [hd, four_ok, lev_4, hin]
  refine wp_mono c1 fun t' ρ e => ?_
  obtain ⟨e1, e2⟩ := e
  subst e1 e2
  by_cases ht : t' = true
  · rw [if_pos ht]
    refine wp_seq (ρ1 := [G, F, .val 0 (.int A), .val 1 (.dict (kv D.1)), .val 0 (.dict (kv o)), .val 0 (.int c), K, .val 1 (.dict (kv D.1)), .val 1 (.list (D.2.map PyData.str)), s9, s10, s11, .val 1 (.list (D.2.map PyData.str))]) ?_ ?_
    · rcases h3 with rfl | ⟨k, d, rfl⟩ <;> rcases h12 with rfl | ⟨k', d', rfl⟩ <;> simp [p1, p2, prots]
    refine wp_seq (ρ1 := [G, F, .val 0 (.int A), .val 1 (.dict (kv D.1)), .val 0 (.dict (kv o)), .val 0 (.int c), K, .val 1 (.dict (kv D.1)), .val 1 (.list (D.2.map PyData.str)), s9, s10, s11, .val 1 (.list (D.2.map PyData.str ++ [.str "marked"]))]) ?_ ?_
    · rw [wp_cIf]
      simp [cmp_ne, te]
      rw [notO_some, wO_some]
      simp [x1, x2]
    refine wp_seq (ρ1 := [G, F, .val 0 (.int A), .val 1 (.dict (kv D.1)), .val 0 (.dict (kv o)), .val 0 (.int c), K, .val 1 (.dict (kv D.1)), .val 1 (.list (D.2.map PyData.str)), s9, s10, s11, .val 1 (.list (D.2.map PyData.str ++ [.str "marked"]))]) ?_ ?_
    · rw [wp_cIf]
      simp [callI, pickI, p1, p2, cmp_ne, te, re]
      rw [notO_some, wO_some]
      simp [callI, pickI, p1, p2, cmp_ne, te, re]
      rw [notO_some, wO_some]
      simp
    · rw [wp_ret]
      exact hQ _ _ (.inr ⟨_, _, rfl⟩) (.inr ⟨_, _, rfl⟩)
  · rw [if_neg ht, wp_ret]
    exact hQ _ _ h3 h12
end K88
end
section
namespace K88
open PySem PD
def tnB (cl : PD.Callee) : M Flw := sq (stA cl) (sq (stB cl) (sq stC (sq stD (sq (stE cl) (ret .nx)))))
theorem wp_sq' {a b : M Flw} {ρ : Sts} {Q : Flw → Sts → Prop} (h : wp a ρ fun f ρ' => f = .nx ∧ wp b ρ' Q) : wp (sq a b) ρ Q := by
  rw [wp_sq]
  refine wp_mono h fun f ρ' ⟨e, q⟩ => ?_
  subst e
  exact q
theorem tn_ok (n m : Nat) (A c : Int) (o : Tab) (hA : A = (m : Int)) (hc : 0 ≤ c ∧ c ≤ 1000) (h : o.length ≤ 8) (w : Own o) (hm : m ≤ 900) (G s3 K s9 s10 s11 s12 : PD.Slot) (h3 : Sf s3) (h10 : Sf s10) (h11 : Sp s11) (h12 : Sf s12)
    (h9 : (m = 0 ∧ s9 = .val 1 .none) ∨ (0 < m ∧ s9 = .val 0 (.dict (kv (br o (A - 1)))))) :
    wp (tnB (callF P (n + 8))) [G, .val 1 (.list (fallS o (m - 1))), .val 0 (.int A), s3, .val 0 (.dict (kv o)), .val 0 (.int c), K, .val 1 (.dict (kv (dealS o (m - 1)).1)), .val 1 (.list ((dealS o (m - 1)).2.map PyData.str)), s9, s10, s11, s12]
      (fun f ρ => f = .nx ∧ ∃ s3 s10 s11 s12, Sf s3 ∧ Sf s10 ∧ Sp s11 ∧ Sf s12 ∧ ρ = [G, .val 1 (.list (fallS o m)), .val 0 (.int A), s3, .val 0 (.dict (kv o)), .val 0 (.int c), K, .val 1 (.dict (kv (dealS o m).1)), .val 1 (.list ((dealS o m).2.map PyData.str)), .val 0 (.dict (kv (br o A))), s10, s11, s12]) := by
  unfold tnB
  cases m with
  | zero =>
    have hA : A = 0 := hA
    rcases h9 with ⟨_, rfl⟩ | ⟨h9, _⟩
    · subst hA
      refine wp_sq' (stA_0 _ _ _ _ _ _ _ _ _ _ _ _ _ _ ⟨rfl, ?_⟩)
      refine wp_sq' (stB_ok (n + 7) 0 o (by omega) w (by omega) _ _ _ _ _ _ _ _ _ _ _ h10 _ ⟨rfl, ?_⟩)
      refine wp_sq' (stC_0 _ _ _ _ _ _ _ _ _ _ _ _ _ ⟨rfl, ?_⟩)
      refine wp_sq' (stD_ok _ _ _ _ _ _ _ _ _ _ _ _ _ _ (.inr ⟨_, _, rfl⟩) _ ⟨rfl, ?_⟩)
      refine wp_sq' (stE_ok (n + 2) 0 0 c o rfl hc (by omega) w (by omega) _ _ _ _ _ _ _ _ h3 h12 _ fun s3 s12 g3 g12 => ⟨rfl, ?_⟩)
      rw [wp_ret]
      exact ⟨rfl, s3, _, s11, s12, g3, .inr ⟨_, _, rfl⟩, h11, g12, rfl⟩
    · omega
  | succ m =>
    rcases h9 with ⟨h9, _⟩ | ⟨_, rfl⟩
    · omega
    · refine wp_sq' (stA_1 (n + 7) m A o hA (by omega) w (by omega) _ _ _ _ _ _ _ _ _ h11 _ fun b => ⟨rfl, ?_⟩)
      refine wp_sq' (stB_ok (n + 7) A o (by omega) w (by omega) _ _ _ _ _ _ _ _ _ _ _ h10 _ ⟨rfl, ?_⟩)
      refine wp_sq' (stC_1 m A o hA h w (by omega) _ _ _ _ _ _ _ b _ ⟨rfl, ?_⟩)
      refine wp_sq' (stD_ok _ _ _ _ _ _ _ _ _ _ _ _ _ _ (.inr ⟨_, _, rfl⟩) _ ⟨rfl, ?_⟩)
      refine wp_sq' (stE_ok (n + 2) (m + 1) A c o hA hc (by omega) w (by omega) _ _ _ _ _ _ _ _ h3 h12 _ fun s3 s12 g3 g12 => ⟨rfl, ?_⟩)
      rw [wp_ret]
      exact ⟨rfl, s3, _, _, s12, g3, .inr ⟨_, _, rfl⟩, .inr ⟨_, rfl⟩, g12, rfl⟩
def r1 (cl : PD.Callee) : M Flw := (nxt (bnd (evsM [(bnd (argsM [aL 0, aV (ret (0, (.int 5)))]) fun as => cCall cl "_law_owners" as), (cAdd (tmp (ret (0, (.int 10)))) (tmp (bnd (argsM [aL 0, aV (ret (0, (.int 30)))]) fun as => cCall cl "_law_random" as)))]) fun vs => stoM [fun v => (store [0] 4 v), fun v => (store [0] 5 v)] vs))
def r2 (_ : PD.Callee) : M Flw := (nxt (bnd (cTuple (evsM [(cLook "repr" (slotO 4)), (cMake "dict" (tmp (cLc (walkO false (slotO 4)) [11] (fun x => (store [] 11 (0, x))) (ret true) (cTuple (evsM [(share 11), (ret (0, (.int 0)))]))))), (cList (evsM [])), (ret (0, .none))])) fun v => (untup v [fun v => (store [0] 6 v), fun v => (store [0] 7 v), fun v => (store [0] 8 v), fun v => (store [0] 9 v)])))
def r3 : M Flw := (nxt (bnd (cList (evsM [])) fun v => (store [0] 1 v)))
def r4 (cl : PD.Callee) : M Flw := (cFor (walkR (ret 0) (asInt (cAdd (slotO 5) (tmp (ret (0, (.int 1))))))) (fun x => (store [0] 2 (0, x))) (tnB cl))
def r5 (cl : PD.Callee) : M Flw := (nxt (bnd (bnd (argsM [aV (share 4), aV (share 5)]) fun as => cCall cl "falling_sums" as) fun v => (store [0] 3 v)))
def r6 (cl : PD.Callee) : M Flw := (cIf (tst (xOr (cNot (bnd (argsM [aL 3, aL 1]) fun as => cCall cl "_law_exact" as)) (xOr (cNot (bnd (argsM [aL 3]) fun as => cCall cl "_law_marked" as)) (cNot (bnd (argsM [aV (bnd (argsM [aV (share 5), aV (share 4)]) fun bs => callI cl "falling_sums" [1, 0] bs), aL 1]) fun as => cCall cl "_law_exact" as)))))
    (sq (rt (ret (0, (.bool false))))
    (ret .nx))
    (ret .nx))
def r7 (cl : PD.Callee) : M Flw := (sq (rt (xAnd (bnd (argsM [aV (share 4), aV (share 5)]) fun as => cCall cl "_law_rises_right" as) (cCmp .Eq (tmp (cLook "repr" (slotO 4))) (slotO 6))))
  (ret .nx))
theorem z_right_eq (cl : PD.Callee) : z_law_owners_right cl = sq (r1 cl) (sq (r2 cl) (sq r3 (sq (r4 cl) (sq (r5 cl) (sq (r6 cl) (r7 cl)))))) := by
  unfold z_law_owners_right r1 r2 r3 r4 r5 r6 r7 tnB stA stB stC stD stE
  rfl
theorem r1_ok (n N : Nat) (g : PyData) (hg : GenOk N g) (hN : N ≤ 4000) : ∃ (o : Tab) (g' : PyData) (N' : Nat) (c : Int), Own o ∧ o.length ≤ 5 ∧ N' ≤ N + 41 ∧ GenOk N' g' ∧ 10 ≤ c ∧ c ≤ 39 ∧
    ∀ (Q : Flw → Sts → Prop), Q .nx [.val 1 g', .dead, .dead, .dead, .val 1 (.dict (kv o)), .val 0 (.int c), .dead, .dead, .dead, .dead, .dead, .dead, .dead] → wp (r1 (callF P (n + 8))) [.val 1 g, .dead, .dead, .dead, .dead, .dead, .dead, .dead, .dead, .dead, .dead, .dead, .dead] Q := by
  obtain ⟨o, g1, N1, w, ho, hN1, hg1, e1⟩ := owners_ok (n + 4) N g 5 hg (by omega) (by omega)
  obtain ⟨r, g2, a2, b2, h2, e2⟩ := random_ok (n + 6) N1 g1 30 hg1 (by omega) (by omega)
  refine ⟨o, g2, N1 + 1, 10 + r, w, ho, by omega, h2, by omega, by omega, fun Q hQ => ?_⟩
  unfold r1
  simp [e1, e2, prots, hQ]
theorem r2_ok (cl : PD.Callee) (o : Tab) (G C : PD.Slot) (h : o.length ≤ 1000) (w : Own o) (Q : Flw → Sts → Prop) (hQ : Q .nx [G, .dead, .dead, .dead, .val 0 (.dict (kv o)), C, .val 1 (.str (PyData.shown (.dict (kv o)))), .val 1 (.dict (kv (dealS o 0).1)), .val 1 (.list []), .val 1 .none, .dead, .dead, .dead]) :
    wp (r2 cl) [G, .dead, .dead, .dead, .val 1 (.dict (kv o)), C, .dead, .dead, .dead, .dead, .dead, .dead, .dead] Q := by
  have hl : o.length ≤ sizeLine := small_ok (Nat.le_trans h (by decide))
  have hal : allPairs ((tkeys o).map fun x => PyData.tuple [.str x, .int 0]) = some (kv (dealS o 0).1) := by
    show _ = some (kv ((tkeys o).map fun x => (x, 0)))
    unfold kv
    generalize tkeys o = l
    induction l with
    | nil => rfl
    | cons x l ih =>
      rw [List.map_cons, List.map_cons, List.map_cons]
      unfold allPairs
      rw [ih]
  have hm : mergeD [] (kv (dealS o 0).1) = kv (dealS o 0).1 := merge_kv _ (by
    obtain ⟨k1, _, _⟩ := deal_prt w 0
    rw [k1]
    exact w.nd)
  have rp := repr_ok o h w
  generalize (dealS o 0).1 = D at *
  generalize PyData.shown (.dict (kv o)) = S at *
  unfold r2
  simp [rp, items_kv]
  refine wp_compT PyData.str (fun x => [(1, PyData.tuple [.str x, .int 0])]) rfl _ (fun x hx => ?_) ?_
  · simp
  · simp [hl, Function.comp_def, bk1_dict_list, hal, allLeaf_kv, hm, four_ok, lev, minLev, prots]
    exact hQ
theorem r3_ok (G a s3 O C K p r s9 s10 s11 s12 : PD.Slot) (Q : Flw → Sts → Prop) (hQ : Q .nx [G, .val 1 (.list []), a, s3, O, C, K, p, r, s9, s10, s11, s12]) : wp r3 [G, .dead, a, s3, O, C, K, p, r, s9, s10, s11, s12] Q := by
  unfold r3
  simp [lev, minLev, prots, hQ]
end K88
end
section
namespace K88
open PySem PD
theorem r4_ok (n mm : Nat) (c : Int) (o : Tab) (hmm : c = (mm : Int)) (hc : 0 ≤ c ∧ c ≤ 800) (h : o.length ≤ 8) (w : Own o) (G K : PD.Slot) (Q : Flw → Sts → Prop)
    (hQ : ∀ s2 s3 s9 s10 s11 s12, Sf s2 → Sf s3 → Sf s12 → Q .nx [G, .val 1 (.list (fallS o mm)), s2, s3, .val 0 (.dict (kv o)), .val 0 (.int c), K, .val 1 (.dict (kv (dealS o mm).1)), .val 1 (.list ((dealS o mm).2.map PyData.str)), s9, s10, s11, s12]) :
    wp (r4 (callF P (n + 8))) [G, .val 1 (.list []), .dead, .dead, .val 0 (.dict (kv o)), .val 0 (.int c), K, .val 1 (.dict (kv (dealS o 0).1)), .val 1 (.list []), .val 1 .none, .dead, .dead, .dead] Q := by
  have ht := fun m A s3 s9 s10 s11 s12 a b c' d e f g => tn_ok n m A c o a (by omega) h w b G s3 K s9 s10 s11 s12 c' d e f g
  unfold r4
  generalize tnB (callF P (n + 8)) = B at *
  refine wp_forR (a := 0) (b := c + 1) (m := mm + 1) (c := fun n => PyData.int (Int.ofNat n)) (ρ1 := [G, .val 1 (.list []), .dead, .dead, .val 0 (.dict (kv o)), .val 0 (.int c), K, .val 1 (.dict (kv (dealS o 0).1)), .val 1 (.list []), .val 1 .none, .dead, .dead, .dead]) (ρ2 := [G, .val 1 (.list []), .dead, .dead, .val 0 (.dict (kv o)), .val 0 (.int c), K, .val 1 (.dict (kv (dealS o 0).1)), .val 1 (.list []), .val 1 .none, .dead, .dead, .dead]) (by simp) (by simp) (by omega) (by omega) (by omega) (fun n => by simp)
    (fun pre ρ => ∃ s2 s3 s9 s10 s11 s12 B, B = Int.ofNat pre.length ∧ Sf s2 ∧ Sf s3 ∧ Sf s10 ∧ Sp s11 ∧ Sf s12 ∧ ((pre.length = 0 ∧ s9 = .val 1 .none) ∨ (0 < pre.length ∧ s9 = .val 0 (.dict (kv (br o (B - 1)))))) ∧ ρ = [G, .val 1 (.list (fallS o (pre.length - 1))), s2, s3, .val 0 (.dict (kv o)), .val 0 (.int c), K, .val 1 (.dict (kv (dealS o (pre.length - 1)).1)), .val 1 (.list ((dealS o (pre.length - 1)).2.map PyData.str)), s9, s10, s11, s12])
    ⟨_, _, _, _, _, _, _, rfl, .inl rfl, .inl rfl, .inl rfl, .inl rfl, .inl rfl, .inl ⟨rfl, rfl⟩, rfl⟩ ?_ ?_
  · rintro pre x post ρ e hx hlen ⟨s2, s3, s9, s10, s11, s12, B, hB, h2, h3, h10, h11, h12, h9, er⟩
    subst er
    generalize hX : Int.ofNat x = X
    have eB : B = X := by rw [hB, ← hX, hx]
    have eX : X = (pre.length : Int) := by rw [← hX, hx]; rfl
    subst eB
    generalize hp : pre.length = p at *
    have st2 : wp (store [0] 2 (0, PyData.int B)) [G, .val 1 (.list (fallS o (p - 1))), s2, s3, .val 0 (.dict (kv o)), .val 0 (.int c), K, .val 1 (.dict (kv (dealS o (p - 1)).1)), .val 1 (.list ((dealS o (p - 1)).2.map PyData.str)), s9, s10, s11, s12] (fun _ ρ' => ρ' = [G, .val 1 (.list (fallS o (p - 1))), .val 0 (.int B), s3, .val 0 (.dict (kv o)), .val 0 (.int c), K, .val 1 (.dict (kv (dealS o (p - 1)).1)), .val 1 (.list ((dealS o (p - 1)).2.map PyData.str)), s9, s10, s11, s12]) := by
      rcases h2 with rfl | ⟨k, d, rfl⟩ <;> simp [prots]
    refine wp_mono st2 fun _ ρ' e' => ?_
    subst e'
    refine wp_mono (ht p B s3 s9 s10 s11 s12 eX (by omega) h3 h10 h11 h12 h9) fun f ρ2 ⟨ef, t3, t10, t11, t12, g3, g10, g11, g12, er⟩ => ?_
    subst ef er
    have el : (pre ++ [x]).length = p + 1 := by rw [List.length_append, hp]; rfl
    refine ⟨.val 0 (.int B), t3, .val 0 (.dict (kv (br o B))), t10, t11, t12, B + 1, ?_, .inr ⟨_, _, rfl⟩, g3, g10, g11, g12, .inr ⟨by omega, by rw [Int.add_sub_cancel]⟩, ?_⟩
    · rw [el, eX]; simp
    · rw [el, Nat.add_sub_cancel]
  · rintro ρ ⟨s2, s3, s9, s10, s11, s12, B, hB, h2, h3, h10, h11, h12, h9, er⟩
    subst er
    rw [List.length_range]
    exact hQ _ _ _ _ _ _ h2 h3 h12
theorem falls_form (o : Tab) : ∀ m, ∀ d ∈ fallS o m, ∃ (a : Int) (x : Str), d = .tuple [.int a, .str x]
  | 0, d, h => nomatch h
  | m + 1, d, h => by
    rcases List.mem_append.mp h with h | h
    · exact falls_form o m d h
    · unfold fallA at h
      obtain ⟨x, _, rfl⟩ := List.mem_map.mp h
      exact ⟨_, x, rfl⟩
theorem fl_ex (n : Nat) (o : Tab) (m : Nat) : ∀ d ∈ fallS o m, ExT (n + 2) d := fun d h => by
  obtain ⟨a, x, rfl⟩ := falls_form o m d h
  refine exact_tup (n + 1) _ (by show 2 ≤ _; omega) fun y hy => ?_
  simp only [List.mem_cons, List.not_mem_nil, or_false] at hy
  rcases hy with rfl | rfl
  · exact exact_int n 0 0 a
  · exact exact_str n 0 0 x
theorem fl_mk (n : Nat) (o : Tab) (m : Nat) : ∀ d ∈ fallS o m, MkT (n + 2) d := fun d h => by
  obtain ⟨a, x, rfl⟩ := falls_form o m d h
  refine marked_tup (n + 1) _ (by show 2 ≤ _; omega) fun y hy => ?_
  simp only [List.mem_cons, List.not_mem_nil, or_false] at hy
  rcases hy with rfl | rfl
  · exact marked_int n 0 a
  · exact marked_str n 0 x
theorem fl_pl (o : Tab) (m : Nat) : ∀ d ∈ fallS o m, d.plain = true := fun d h => by
  obtain ⟨a, x, rfl⟩ := falls_form o m d h
  rfl
theorem fl_mark (o : Tab) (m : Nat) : ∀ d ∈ fallS o m, imm d = true ∧ cmpOp .Eq d (.str "marked") = some false := fun d h => by
  obtain ⟨a, x, rfl⟩ := falls_form o m d h
  refine ⟨rfl, ?_⟩
  show cmpEq _ _ = _
  unfold cmpEq
  rw [if_pos (by simp [PyData.plain, PyData.plainAll, depthOk, PyData.depth, PyData.depthAll])]
  simp [PyData.eqv]
theorem r5_ok (n mm : Nat) (c : Int) (o : Tab) (hmm : c = (mm : Int)) (hc : 0 ≤ c ∧ c ≤ 800) (h : o.length ≤ 8) (w : Own o) (G F s2 s3 K p r s9 s10 s11 s12 : PD.Slot) (h3 : Sf s3) (Q : Flw → Sts → Prop)
    (hQ : Q .nx [G, F, s2, .val 1 (.list (fallS o mm)), .val 0 (.dict (kv o)), .val 0 (.int c), K, p, r, s9, s10, s11, s12]) :
    wp (r5 (callF P (n + 8))) [G, F, s2, s3, .val 0 (.dict (kv o)), .val 0 (.int c), K, p, r, s9, s10, s11, s12] Q := by
  have e := falling_ok (n + 3) o c mm hmm h w (by omega)
  generalize fallS o mm = S at *
  unfold r5
  rcases h3 with rfl | ⟨k, d, rfl⟩ <;> simp [e, prots, hQ]
theorem r6_ok (n mm : Nat) (c : Int) (o : Tab) (hmm : c = (mm : Int)) (hc : 0 ≤ c ∧ c ≤ 800) (h : o.length ≤ 8) (w : Own o) (G s2 K p r s9 s10 s11 s12 : PD.Slot) (Q : Flw → Sts → Prop)
    (hQ : ∀ F s3, Q .nx [G, F, s2, s3, .val 0 (.dict (kv o)), .val 0 (.int c), K, p, r, s9, s10, s11, s12]) :
    wp (r6 (callF P (n + 8))) [G, .val 1 (.list (fallS o mm)), s2, .val 1 (.list (fallS o mm)), .val 0 (.dict (kv o)), .val 0 (.int c), K, p, r, s9, s10, s11, s12] Q := by
  have e := falling_ok (n + 3) o c mm hmm h w (by omega)
  have hl : (fallS o mm).length ≤ 900000 := by
    have := fallS_len o mm
    have := Nat.mul_le_mul (show mm ≤ 800 by omega) h
    omega
  have x1 := exact_list (n + 7) 0 0 (fallS o mm) (by omega) (fl_ex _ o mm)
  have x2 := marked_list (n + 7) 0 (fallS o mm) (by omega) (fl_mk _ o mm) (fl_pl o mm) (fl_mark o mm)
  generalize fallS o mm = S at *
  unfold r6
  rw [wp_cIf]
  simp [e, x1, x2, callI, pickI, prots]
  exact hQ _ _
theorem r7_ok (n mm : Nat) (c : Int) (o : Tab) (hmm : c = (mm : Int)) (hc : 10 ≤ c ∧ c ≤ 800) (h : o.length ≤ 8) (w : Own o) (g : PyData) (F s2 s3 p r s9 s10 s11 s12 : PD.Slot) :
    wp (r7 (callF P (n + 8))) [.val 1 g, F, s2, s3, .val 0 (.dict (kv o)), .val 0 (.int c), .val 1 (.str (PyData.shown (.dict (kv o)))), p, r, s9, s10, s11, s12] (fun f ρ => f = .rt (0, .bool true) ∧ backOf [true] ρ = [.val 1 g]) := by
  have e := rises_ok (n + 1) mm o c hmm (by omega) w (by omega)
  have rp := repr_ok o (by omega) w
  have eq := refl_eq (d := .str (PyData.shown (.dict (kv o)))) (by rfl) (by rw [PyData.depth]; omega)
  generalize PyData.shown (.dict (kv o)) = S at *
  unfold r7
  simp [e, rp, eq, backOf]
theorem right_ok (n N : Nat) (g : PyData) (hg : GenOk N g) (hN : N ≤ 4000) : ∃ (g' : PyData) (N' : Nat), N' ≤ N + 41 ∧ GenOk N' g' ∧ callF P (n + 9) "_law_owners_right" [.val 1 g] = some (.ok (0, .bool true) [.val 1 g']) := by
  obtain ⟨o, g', N', c, w, ho, hN', hg', c1, c2, h1⟩ := r1_ok n N g hg hN
  refine ⟨g', N', hN', hg', ?_⟩
  have hmm : c = (c.toNat : Int) := by omega
  rw [e_law_owners_right]
  apply outF_eq
  rw [z_right_eq]
  refine wp_sq' (h1 _ ⟨rfl, ?_⟩)
  refine wp_sq' (r2_ok (callF P (n + 8)) o (.val 1 g') (.val 0 (.int c)) (by omega) w _ ⟨rfl, ?_⟩)
  refine wp_sq' (r3_ok _ _ _ _ _ _ _ _ _ _ _ _ _ ⟨rfl, ?_⟩)
  refine wp_sq' (r4_ok n c.toNat c o hmm (by omega) (by omega) w _ _ _ fun s2 s3 s9 s10 s11 s12 q2 q3 q12 => ⟨rfl, ?_⟩)
  refine wp_sq' (r5_ok n c.toNat c o hmm (by omega) (by omega) w _ _ _ _ _ _ _ _ _ _ _ q3 _ ⟨rfl, ?_⟩)
  refine wp_sq' (r6_ok n c.toNat c o hmm (by omega) (by omega) w _ _ _ _ _ _ _ _ _ _ fun F s3 => ⟨rfl, ?_⟩)
  exact r7_ok n c.toNat c o hmm (by omega) (by omega) w _ _ _ _ _ _ _ _ _ _
end K88
end
section
namespace K88
open PySem PD
def ownA : Tab := [("a", 6), ("b", 6), ("c", 2)]
def ownC : Tab := [("a", 1)]
def ownD : Tab := [("b", 1), ("a", 1)]
theorem fa (n : Nat) : callF P (n + 20) "falling_sums" [.val 1 (.dict (kv ownA)), .val 0 (.int 11)] = some (.ok (1, .list [.tuple [.int 4, .str "c"], .tuple [.int 11, .str "c"]]) [.dead, .dead]) := by kernel_rfl
theorem fc (n : Nat) : callF P (n + 20) "falling_sums" [.val 1 (.dict (kv ownC)), .val 0 (.int 60)] = some (.ok (1, .list []) [.dead, .dead]) := by kernel_rfl
theorem fd (n : Nat) : callF P (n + 20) "dealt_row" [.val 1 (.dict (kv ownD)), .val 0 (.int 3)] = some (.ok (1, .list [.str "a", .str "b", .str "a"]) [.dead, .dead]) := by kernel_rfl
def rx : Vl := (3, .list [.list [.tuple [.int 4, .str "c"], .tuple [.int 11, .str "c"]], .list [], .list [.str "a", .str "b", .str "a"]])
def lastB (cl : PD.Callee) : M Flw := (sq (rt (bnd (argsM [aV (cList (evsM [(bnd (argsM [aV (cDict (prs [((ret (0, (.str "a"))), (ret (0, (.int 6)))), ((ret (0, (.str "b"))), (ret (0, (.int 6)))), ((ret (0, (.str "c"))), (ret (0, (.int 2))))])), aV (ret (0, (.int 11)))]) fun as => cCall cl "falling_sums" as), (bnd (argsM [aV (cDict (prs [((ret (0, (.str "a"))), (ret (0, (.int 1))))])), aV (ret (0, (.int 60)))]) fun as => cCall cl "falling_sums" as), (bnd (argsM [aV (cDict (prs [((ret (0, (.str "b"))), (ret (0, (.int 1)))), ((ret (0, (.str "a"))), (ret (0, (.int 1))))])), aV (ret (0, (.int 3)))]) fun as => cCall cl "dealt_row" as)])), aV (cList (evsM [(cList (evsM [(cTuple (evsM [(ret (0, (.int 4))), (ret (0, (.str "c")))])), (cTuple (evsM [(ret (0, (.int 11))), (ret (0, (.str "c")))]))])), (cList (evsM [])), (cList (evsM [(ret (0, (.str "a"))), (ret (0, (.str "b"))), (ret (0, (.str "a")))]))]))]) fun as => cCall cl "_law_exact" as))
  (ret .nx))
theorem last_ok (ρ : Sts) (hρ : backOf [false] ρ = [.dead]) : outF [false] (lastB (callF P 39) ρ) = some (.ok (0, .bool true) [.dead]) := by
  have e : lastB (callF P 39) ρ = some (.ok (.rt (0, .bool true)) ρ) := by kernel_rfl
  rw [e]
  show some (CRes.ok _ (backOf [false] ρ)) = _
  rw [hρ]
end K88
end
section
namespace K88
open PySem PD
def lawB (cl : PD.Callee) : M Flw := (sq (nxt (bnd (bnd (argsM [aV (share 0), aV (share 1)]) fun as => cCall cl "_law_generator" as) fun v => (store [] 2 v)))
    (sq (cIf (tst (xOr (cNot (bnd (argsM [aL 2]) fun as => cCall cl "_law_owners_right" as)) (cNot (bnd (argsM [aL 2]) fun as => cCall cl "_law_owners_right" as))))
      (sq (rt (ret (0, (.bool false))))
      (ret .nx))
      (ret .nx))
    (ret .nx)))
theorem z_law_eq (cl : PD.Callee) : z_law cl = sq (cFor (walkR (ret 0) (asInt (ret (0, (.int 3))))) (fun x => (store [] 1 (0, x))) (lawB cl)) (lastB cl) := by
  unfold z_law lawB lastB
  rfl
theorem lawB_ok (n i : Nat) (I : Int) (ns : List Int) (hI : I = (i : Int)) (hi : i ≤ 2) (hn : ns.length ≤ 63) (s2 : PD.Slot) (h2 : Sf s2) : wp (lawB (callF P (n + 9))) [.val 0 (.list (ns.map PyData.int)), .val 0 (.int I), s2] (fun f ρ => f = .nx ∧ ∃ s2, Sf s2 ∧ ρ = [.val 0 (.list (ns.map PyData.int)), .val 0 (.int I), s2]) := by
  obtain ⟨g, hg, e⟩ := generator_ok (n + 7) ns i hi hn
  obtain ⟨g1, N1, q1, hg1, e1⟩ := right_ok n 2000 g hg (by omega)
  obtain ⟨g2, N2, q2, hg2, e2⟩ := right_ok n N1 g1 hg1 (by omega)
  rw [← hI] at e
  generalize PyData.list (ns.map PyData.int) = L at *
  unfold lawB
  refine wp_seq (ρ1 := [.val 0 L, .val 0 (.int I), .val 1 g]) ?_ ?_
  · rcases h2 with rfl | ⟨k, d, rfl⟩ <;> simp [e]
  · rw [wp_sq, wp_cIf]
    simp [e1, e2]
    exact .inr ⟨_, _, rfl⟩
theorem law_ok (ns : List Int) (hn : ns.length ≤ 63) : ∃ back, callF P 40 "law" [.val 0 (.list (ns.map PyData.int))] = some (.ok (0, .bool true) back) := by
  refine ⟨[.dead], ?_⟩
  have hb := fun i I s2 a b c => lawB_ok 30 i I ns a b hn s2 c
  have el : callF P 40 "law" [.val 0 (.list (ns.map PyData.int))] = outF [false] (z_law (callF P 39) [.val 0 (.list (ns.map PyData.int)), .dead, .dead]) := e_law 39 _
  rw [el, z_law_eq]
  have hb : ∀ (i : Nat) (I : Int) (s2 : PD.Slot), I = (i : Int) → i ≤ 2 → Sf s2 → wp (lawB (callF P 39)) [.val 0 (.list (ns.map PyData.int)), .val 0 (.int I), s2] (fun f ρ => f = .nx ∧ ∃ s2, Sf s2 ∧ ρ = [.val 0 (.list (ns.map PyData.int)), .val 0 (.int I), s2]) := hb
  generalize lawB (callF P 39) = B at *
  have lo := last_ok
  generalize lastB (callF P 39) = LB at *
  generalize PyData.list (ns.map PyData.int) = L at *
  have key : wp (cFor (walkR (ret 0) (asInt (ret (0, (.int 3))))) (fun x => (store [] 1 (0, x))) B) [.val 0 L, .dead, .dead] (fun f ρ => f = .nx ∧ backOf [false] ρ = [.dead]) := by
    refine wp_forR (a := 0) (b := 3) (m := 3) (c := fun n => PyData.int (Int.ofNat n)) (ρ1 := [.val 0 L, .dead, .dead]) (ρ2 := [.val 0 L, .dead, .dead]) (by simp) (by simp) (by omega) (by omega) (by omega) (fun n => by simp)
      (fun pre ρ => ∃ s1 s2, Sf s1 ∧ Sf s2 ∧ ρ = [.val 0 L, s1, s2]) ⟨_, _, .inl rfl, .inl rfl, rfl⟩ ?_ ?_
    · rintro pre x post ρ e hx hlen ⟨s1, s2, h1, h2, er⟩
      subst er
      generalize hX : Int.ofNat x = X
      have st : wp (store [] 1 (0, PyData.int X)) [.val 0 L, s1, s2] (fun _ ρ => ρ = [.val 0 L, .val 0 (.int X), s2]) := by
        rcases h1 with rfl | ⟨k, d, rfl⟩ <;> simp
      refine wp_mono st fun _ ρ' e' => ?_
      subst e'
      refine wp_mono (hb x X s2 hX.symm (by omega) h2) fun f ρ2 ⟨ef, t2, g2, er⟩ => ?_
      subst ef er
      exact ⟨_, _, .inr ⟨_, _, rfl⟩, g2, rfl⟩
    · rintro ρ ⟨s1, s2, h1, h2, er⟩
      subst er
      exact ⟨rfl, rfl⟩
  obtain ⟨f, ρ1, e1, ef, hρ⟩ := wp_def.mp key
  subst ef
  have es : sq (cFor (walkR (ret 0) (asInt (ret (0, (.int 3))))) (fun x => (store [] 1 (0, x))) B) LB [.val 0 L, .dead, .dead] = LB ρ1 := by
    unfold sq bnd
    rw [e1]
  rw [es]
  exact lo ρ1 hρ
end K88
end
section
namespace K88
open PySem PySem.Spec PyProof.Rows L2 PD
def loose : List PySem.Str := (["VendError", "InvalidNumber", "InvalidSum", "InvalidOwners", "SMALL", "FIGURES", "MOST_NAME", "is_whole", "is_count", "is_signs", "is_name", "check_owners", "check_owners_sum", "all_shares", "rests_in", "left_over", "by_rests", "next_by_turn", "turns_in", "parted_by_turns", "dealt_row", "falling_sums", "_law_hash", "_law_cell", "_law_generator", "_law_random", "_law_pick", "_law_drawn_order", "_law_marked", "_law_exact"] : List PySem.Str) ++ (["_law_owners", "_law_rests", "_law_best", "_law_owners_right", "_law_rises_right"] : List PySem.Str)
abbrev R : PySem.W.OpenRow := PySem.W.OpenLaw.row PySem.Challenge.rw_vendhall_k88_whole_partings_by_turns
abbrev hk : PySem.W.Hook := hookM 4 T.fa T.fn
def ob (s : PySem.W.SharedT) : AlM := obsM 4 T.fa T.fn (HandSHeadRun.getT s)
theorem ob_eq (s : PySem.W.SharedT) : ob s = hk.obs s.abs := by
  have e : HandSHeadRun.getT s = s.abs.heap.get? := funext (HandSHeadRun.getT_eq s)
  unfold ob
  rw [e]
  rfl
theorem run (w : World) : HandSHeadRun.RunEq R (PySem.W.view R.prog [39]) hk ob 3000 loose w := by
  intro os
  kernel_rfl
theorem ok : T.ok = true := by kernel_rfl
end K88
open PySem PySem.W PySem.Calls PyProof.Rows
theorem PySem.Challenge.cw_vendhall_k88_whole_partings_by_turns_holds : PySem.Challenge.rw_vendhall_k88_whole_partings_by_turns.Holds := by
  w_on; o_law
  refine HandSHeadRun.head_any (r := OpenLaw.row PySem.Challenge.rw_vendhall_k88_whole_partings_by_turns) (q := view (OpenLaw.row PySem.Challenge.rw_vendhall_k88_whole_partings_by_turns).prog [39]) (H := K88.hk) (ob := K88.ob) (M := 3000) (loose := K88.loose) (d := HandSHeadRun.topDef (OpenLaw.row PySem.Challenge.rw_vendhall_k88_whole_partings_by_turns).prog 39) (kwd := []) K88.ob_eq
    (by kernel_rfl) (fun s => by kernel_rfl) K88.run (by kernel_rfl) (by kernel_rfl) (by kernel_rfl) (by rfl) (by first | assumption | decide +kernel) (by decide +kernel) ⟨rfl, rfl, rfl, rfl, rfl, by decide +kernel⟩ ?hw ?hc
  case hw => w_witness2
  case hc =>
    refine PD.RowT.walk (r := K88.T) (l := PySem.Challenge.rw_vendhall_k88_whole_partings_by_turns) (n := 63) (k := 40) (x := "script") K88.ok rfl (by decide) (by kernel_rfl) ⟨rfl, by decide, by decide⟩ (f0 := K88.T.fns.getD 28 ⟨"", [], [], [], ⟨.function, [], false, false, []⟩, []⟩) (by kernel_rfl) (by kernel_rfl) ?run
    have e : (HandSHeadRun.topDef (OpenLaw.row PySem.Challenge.rw_vendhall_k88_whole_partings_by_turns).prog 39).name = ("law" : PySem.Str) := by kernel_rfl
    rw [e]
    exact K88.law_ok

end
