import PyProof.Rows.All
import HandS.ForMost
import HandS.Flow
import HandS.Zip
import HandS.Deep
import HandS.IsInst
import HandS.Star
import HandS.Conv
import HandS.Defaults
import HandS.TupAny
import HandS.Wide
import HandS.WideBits
import HandS.CallLocal
import HandS.Exc
import HandS.ExcOwn
import HandS.ExcInit
import KE.KDictKeyed
import HandS.EndBits
import HandS.HeadEnd
import HandS.HeadHook1
import HandS.HeadHook2
import HandS.HeadHook4
import HandS.Head0
import HandS.Head1
import HandS.Head2
import HandS.HeadHook3
import PySem.Challenge.RW_alikedeeds_k78_whole_rows_outside
import Lean
import KE.KStateDown
set_option Elab.async false
set_option linter.all false
set_option maxRecDepth 100000
/-! Ev: an evaluator for plain Python over data (values D, memory Mem), by own hand. `den` gives an expression's meaning as a function of the slots and the memory; `callD` runs a def of the text. -/
namespace Ev
open PySem

/-! ### values, memory, results -/
inductive D where
  | non | bl (b : Bool) | int (i : Int) | str (s : Str) | tup (xs : List D) | lst (xs : List D) | frz (xs : List D) | ref (n : Nat) | fn (x : Str) | ty (n : String)
  deriving Inhabited
inductive Ob where
  | lst (xs : List D)
  | dct (kvs : List (D × D))
  | dead
  deriving Inhabited
abbrev Mem := List Ob
inductive Res (α : Type) where
  | ok (a : α) (M : Mem)
  | err (c : Str) (fs : List (Str × D)) (M : Mem)
  | bad
def Res.bind {α β : Type} (r : Res α) (f : α → Mem → Res β) : Res β := match r with
  | .ok a M => f a M
  | .err c fs M => .err c fs M
  | .bad => .bad
abbrev Slots := List (Option D)
abbrev Den := Slots → Mem → Res D
abbrev DenB := Slots → Mem → Res Bool
abbrev DenL := Slots → Mem → Res (List D)

/-! equality of values, as a test (sound and complete for the same term) -/
mutual
def D.same : D → D → Bool
  | .non, .non => true
  | .bl a, .bl b => a == b
  | .int a, .int b => decide (a = b)
  | .str a, .str b => decide (a = b)
  | .tup a, .tup b => D.sameL a b
  | .lst a, .lst b => D.sameL a b
  | .frz a, .frz b => D.sameL a b
  | .ref a, .ref b => Nat.beq a b
  | .fn a, .fn b => decide (a = b)
  | .ty a, .ty b => decide (a = b)
  | _, _ => false
def D.sameL : List D → List D → Bool
  | [], [] => true
  | a :: r, b :: s => D.same a b && D.sameL r s
  | _, _ => false
end

/-- the memory's list n -/
def lstAt (M : Mem) (n : Nat) : Option (List D) := match M[n]? with
  | some (.lst xs) => some xs
  | _ => none
theorem lstAt_some {M : Mem} {n : Nat} {xs : List D} (h : lstAt M n = some xs) : M[n]? = some (.lst xs) := by
  unfold lstAt at h
  split at h
  · rename_i ys e
    cases h
    exact e
  · cases h
theorem lstAt_of {M : Mem} {n : Nat} {xs : List D} (h : M[n]? = some (.lst xs)) : lstAt M n = some xs := by
  unfold lstAt
  rw [h]
/-- the items of a list -/
def seqOf (M : Mem) : D → Option (List D)
  | .lst xs => some xs
  | .ref n => lstAt M n
  | _ => none
/-- .. of a list or a tuple, also of a list that is only read -/
def anyOf (M : Mem) : D → Option (List D)
  | .tup xs => some xs
  | .frz xs => some xs
  | d => seqOf M d
def truthD (M : Mem) : D → Option Bool
  | .non => some false
  | .bl b => some b
  | .int i => some (i != 0)
  | .str s => if s.length ≤ sizeLine then some (decide (s.length ≠ 0)) else none
  | .tup xs => some !xs.isEmpty
  | .lst xs => some !xs.isEmpty
  | .frz xs => some !xs.isEmpty
  | .ref n => (match M[n]? with
    | some (.lst xs) => some !xs.isEmpty
    | _ => none)
  | _ => none

/-! ### data: what == and repr read -/
def mapO {α β : Type} (f : α → Option β) : List α → Option (List β)
  | [] => some []
  | x :: r => match f x, mapO f r with
    | some p, some q => some (p :: q)
    | _, _ => none
def toP (M : Mem) : Nat → D → Option PyData
  | 0, _ => none
  | n + 1, d => match d with
    | .non => some .none
    | .bl b => some (.bool b)
    | .int i => some (.int i)
    | .str s => some (.str s)
    | .tup xs => (mapO (toP M n) xs).map .tuple
    | .lst xs => (mapO (toP M n) xs).map .list
    | .frz xs => (mapO (toP M n) xs).map .list
    | .ref r => (match lstAt M r with
      | some xs => (mapO (toP M n) xs).map .list
      | none => none)
    | _ => none

/-! ### operators -/
def mulOk (i j : Int) : Bool := (decide (-(2 ^ 64) < i) && decide (i < 2 ^ 64)) || (decide (-(2 ^ 64) < j) && decide (j < 2 ^ 64))
def guardR (b : Bool) (d : D) (M : Mem) : Res D := if b then .ok d M else .bad
def addD (x y : D) (M : Mem) : Res D := match x, y with
  | .int i, .int j => .ok (.int (i + j)) M
  | .str a, .str b => guardR (decide (a.length + b.length ≤ sizeLine)) (.str (a ++ b)) M
  | .tup a, .tup b => guardR (decide (a.length + b.length ≤ sizeLine)) (.tup (a ++ b)) M
  | x, y => (match seqOf M x, seqOf M y with
    | some a, some b => guardR (decide (a.length + b.length ≤ sizeLine)) (.lst (a ++ b)) M
    | _, _ => .bad)
def subD (x y : D) (M : Mem) : Res D := match x, y with
  | .int i, .int j => .ok (.int (i - j)) M
  | _, _ => .bad
def mulD (x y : D) (M : Mem) : Res D := match x, y with
  | .int i, .int j => guardR (mulOk i j) (.int (i * j)) M
  | x, .int k => (match seqOf M x with
    | some a => guardR (decide (-(2 ^ 63) ≤ k) && decide (k < 2 ^ 63) && decide (a.length * k.toNat ≤ sizeLine)) (.lst (List.replicate k.toNat a).flatten) M
    | none => .bad)
  | _, _ => .bad
def divD (x y : D) (M : Mem) : Res D := match x, y with
  | .int i, .int j => guardR (decide (j ≠ 0) && decide (j.natAbs < 1073741824)) (.int (i.fdiv j)) M
  | _, _ => .bad
def modD (x y : D) (M : Mem) : Res D := match x, y with
  | .int i, .int j => guardR (decide (j ≠ 0)) (.int (i.fmod j)) M
  | _, _ => .bad
def powD (x y : D) (M : Mem) : Res D := match x, y with
  | .int i, .int j => guardR (decide (0 < j) && decide (2 ≤ i.natAbs) && !Builtin.Int.intTooBig (((Builtin.Int.intBits i : Nat) : Int) * j)) (.int (i ^ j.toNat)) M
  | _, _ => .bad
def binD : Operator → D → D → Mem → Res D
  | .Add => addD
  | .Sub => subD
  | .Mult => mulD
  | .FloorDiv => divD
  | .Mod => modD
  | .Pow => powD
  | _ => fun _ _ _ => .bad

/-! ### comparisons -/
def eqD (x y : D) (M : Mem) : Option Bool := match toP M 70 x, toP M 70 y with
  | some p, some q => if SeqAt.shaped p && SeqAt.shaped q then some (PyData.eqv p q) else none
  | _, _ => none
def flatD : D → Bool
  | .non => true
  | .bl _ => true
  | .int _ => true
  | .str _ => true
  | _ => false
/-- == of flat things -/
def eqF : D → D → Bool
  | .non, .non => true
  | .bl a, .bl b => a == b
  | .bl a, .int b => (if a then 1 else 0) == b
  | .int a, .bl b => a == (if b then 1 else 0)
  | .int a, .int b => a == b
  | .str a, .str b => a == b
  | _, _ => false
def inF (x : D) (ys : List D) : Bool := ys.any fun y => eqF y x
/-- x within the items of y: flat things in a list or tuple, data in a list, a text in a text -/
def inD (x y : D) (M : Mem) : Option Bool := match y with
  | .str b => (match x with
    | .str a => some (!(Builtin.Str.occurrences b a 0 b.length 1).isEmpty)
    | _ => none)
  | .tup ys => if flatD x && ys.all flatD then some (inF x ys) else none
  | .lst ys => inL x ys M
  | .ref n => (match lstAt M n with
    | some ys => inL x ys M
    | none => (match M[n]? with
      | some (.dct kvs) => if keyOk x then some (kvs.any fun kv => D.same kv.1 x) else none
      | _ => none))
  | _ => none
where
  inL (x : D) (ys : List D) (M : Mem) : Option Bool := if flatD x && ys.all flatD then some (inF x ys) else match toP M 70 x, toP M 70 (.lst ys) with
    | some p, some (.list qs) => if SeqAt.shaped p && SeqAt.shaped (.list qs) then some (qs.any fun z => PyData.eqv z p) else none
    | _, _ => none
  keyOk (x : D) : Bool := match x with
    | .tup _ => keyOkN 8 x
    | _ => false
  keyOkN : Nat → D → Bool
    | 0, _ => false
    | n + 1, d => match d with
      | .int _ => true
      | .str _ => true
      | .tup xs => xs.all (keyOkN n)
      | _ => false
/-- all ints -/
def intsOf : List D → Option (List Int)
  | [] => some []
  | .int i :: r => (intsOf r).map (i :: ·)
  | _ => none
def ltD (x y : D) : Option Bool := match x, y with
  | .int i, .int j => some (decide (i < j))
  | .str a, .str b => some (decide (a.cps.toList < b.cps.toList))
  | .tup a, .tup b => (match intsOf a, intsOf b with
    | some i, some j => some (HT.lexLt i j)
    | _, _ => none)
  | _, _ => none
def leD (x y : D) : Option Bool := match x, y with
  | .int i, .int j => some (decide (i ≤ j))
  | .str a, .str b => some (!decide (b.cps.toList < a.cps.toList))
  | _, _ => none
def gtD (x y : D) : Option Bool := match x, y with
  | .int i, .int j => some (decide (j < i))
  | .str a, .str b => some (decide (b.cps.toList < a.cps.toList))
  | _, _ => none
def geD (x y : D) : Option Bool := match x, y with
  | .int i, .int j => some (decide (j ≤ i))
  | .str a, .str b => some (!decide (a.cps.toList < b.cps.toList))
  | _, _ => none
def isNon : D → Bool
  | .non => true
  | _ => false
/-- .. of what is known to stand -/
def isNonM (M : Mem) : D → Option Bool
  | .ref n => (match M[n]? with
    | some .dead => none
    | none => none
    | some _ => some false)
  | d => some (isNon d)
def cmpD (op : CmpOp) (x y : D) (M : Mem) : Option Bool := match op with
  | .Eq => eqD x y M
  | .NotEq => (eqD x y M).map (!·)
  | .Lt => ltD x y
  | .LtE => leD x y
  | .Gt => gtD x y
  | .GtE => geD x y
  | .In => inD x y M
  | .NotIn => (inD x y M).map (!·)
  | .Is => if isNon y then isNonM M x else none
  | .IsNot => if isNon y then (isNonM M x).map (!·) else none
def optR (o : Option Bool) (M : Mem) : Res D := match o with
  | some b => .ok (.bl b) M
  | none => .bad
def optB (o : Option Bool) (M : Mem) : Res Bool := match o with
  | some b => .ok b M
  | none => .bad

/-! ### items, slices -/
def cutD {α : Type} (xs : List α) (lo hi : Option Int) : List α := (xs.drop (HT.sIx xs.length 0 lo)).take (HT.sIx xs.length xs.length hi - HT.sIx xs.length 0 lo)
def dctGet (kvs : List (D × D)) (k : D) : Option D := (kvs.find? fun kv => D.same kv.1 k).map (·.2)
def dctPut : List (D × D) → D → D → List (D × D)
  | [], k, v => [(k, v)]
  | kv :: r, k, v => if D.same kv.1 k then (kv.1, v) :: r else kv :: dctPut r k v
def ixObj (o : Option Ob) (y : D) (M : Mem) : Res D := match o, y with
  | some (.lst xs), .int i => (match L2.atI xs i with
    | some v => .ok v M
    | none => .bad)
  | some (.dct kvs), y => if inD.keyOk y then (match dctGet kvs y with
    | some v => .ok v M
    | none => .bad) else .bad
  | _, _ => .bad
def ixStr (z : Str) (i : Int) (M : Mem) : Res D := match L2.atI z.cps.toList i with
  | some c => guardR (decide (z.length ≤ sizeLine)) (.str ⟨#[c]⟩) M
  | none => .bad
def ixSeq (o : Option (List D)) (i : Int) (M : Mem) : Res D := match o with
  | some xs => (match L2.atI xs i with
    | some v => .ok v M
    | none => .bad)
  | none => .bad
def ixD (x y : D) (M : Mem) : Res D := match x, y with
  | .str z, .int i => ixStr z i M
  | .ref n, y => ixObj M[n]? y M
  | x, .int i => ixSeq (anyOf M x) i M
  | _, _ => .bad
def slD (x : D) (lo hi : Option Int) (M : Mem) : Res D := match x with
  | .str z => guardR (decide (z.length ≤ sizeLine)) (.str (L2.cutS z lo hi)) M
  | .tup xs => .ok (.tup (cutD xs lo hi)) M
  | .frz xs => .ok (.lst (cutD xs lo hi)) M
  | x => (match seqOf M x with
    | some xs => .ok (.lst (cutD xs lo hi)) M
    | none => .bad)
/-- o[i] = v -/
def setObj (o : Option Ob) (i v : D) : Option Ob := match o, i with
  | some (.lst xs), .int k => (match L2.ixN xs.length k with
    | some j => some (.lst (xs.set j v))
    | none => none)
  | some (.dct kvs), i => if inD.keyOk i && decide (kvs.length < sizeLine) then some (.dct (dctPut kvs i v)) else none
  | _, _ => none
def setIx (o i v : D) (M : Mem) : Option Mem := match o with
  | .ref n => (setObj M[n]? i v).map fun ob => M.set n ob
  | _ => none

/-! ### what expressions do -/
def eBad : Den := fun _ _ => .bad
def eC (d : D) : Den := fun _ M => .ok d M
def eV (i : Nat) : Den := fun δ M => match δ[i]? with
  | some (some d) => .ok d M
  | _ => .bad
def eBin (op : Operator) (a b : Den) : Den := fun δ M => (a δ M).bind fun x M => (b δ M).bind fun y M => binD op x y M
def eNeg (a : Den) : Den := fun δ M => (a δ M).bind fun x M => match x with
  | .int i => .ok (.int (-i)) M
  | _ => .bad
def tD (a : Den) : DenB := fun δ M => (a δ M).bind fun x M => optB (truthD M x) M
def tNot (t : DenB) : DenB := fun δ M => (t δ M).bind fun b M => .ok (!b) M
def tAnd (t u : DenB) : DenB := fun δ M => (t δ M).bind fun b M => if b then u δ M else .ok false M
def tOr (t u : DenB) : DenB := fun δ M => (t δ M).bind fun b M => if b then .ok true M else u δ M
def tBool (op : BoolOp) : List DenB → DenB
  | [] => fun _ _ => .bad
  | [t] => t
  | t :: r => match op with
    | .And => tAnd t (tBool op r)
    | .Or => tOr t (tBool op r)
def eNot (a : Den) : Den := fun δ M => (a δ M).bind fun x M => optR ((truthD M x).map (!·)) M
def eAnd (a b : Den) : Den := fun δ M => (a δ M).bind fun x M => match truthD M x with
  | some true => b δ M
  | some false => .ok x M
  | none => .bad
def eOr (a b : Den) : Den := fun δ M => (a δ M).bind fun x M => match truthD M x with
  | some true => .ok x M
  | some false => b δ M
  | none => .bad
def eBool (op : BoolOp) : List Den → Den
  | [] => eBad
  | [a] => a
  | a :: r => match op with
    | .And => eAnd a (eBool op r)
    | .Or => eOr a (eBool op r)
def eIf (t : DenB) (a b : Den) : Den := fun δ M => (t δ M).bind fun c M => if c then a δ M else b δ M
def eCmp (op : CmpOp) (a b : Den) : Den := fun δ M => (a δ M).bind fun x M => (b δ M).bind fun y M => optR (cmpD op x y M) M
def tCmp (op : CmpOp) (a b : Den) : DenB := fun δ M => (a δ M).bind fun x M => (b δ M).bind fun y M => optB (cmpD op x y M) M
def eCmp2 (op op' : CmpOp) (a b c : Den) : Den := fun δ M => (a δ M).bind fun x M => (b δ M).bind fun y M => match cmpD op x y M with
  | some true => (c δ M).bind fun z M => optR (cmpD op' y z M) M
  | some false => .ok (.bl false) M
  | none => .bad
def tCmp2 (op op' : CmpOp) (a b c : Den) : DenB := fun δ M => (a δ M).bind fun x M => (b δ M).bind fun y M => match cmpD op x y M with
  | some true => (c δ M).bind fun z M => optB (cmpD op' y z M) M
  | some false => .ok false M
  | none => .bad
/-- arguments, items: true where a star stands -/
def eL : List (Bool × Den) → DenL
  | [] => fun _ M => .ok [] M
  | (false, a) :: r => fun δ M => (a δ M).bind fun x M => (eL r δ M).bind fun xs M => .ok (x :: xs) M
  | (true, a) :: r => fun δ M => (a δ M).bind fun x M => match anyOf M x with
    | some ys => (eL r δ M).bind fun xs M => .ok (ys ++ xs) M
    | none => .bad
def newL (hint : Bool) (xs : List D) (M : Mem) : Res D := if hint then .ok (.ref M.length) (M ++ [.lst xs]) else .ok (.lst xs) M
def eTup (es : List (Bool × Den)) : Den := fun δ M => (eL es δ M).bind fun xs M => guardR (decide (xs.length ≤ sizeLine)) (.tup xs) M
def eLst (hint : Bool) (es : List (Bool × Den)) : Den := fun δ M => (eL es δ M).bind fun xs M => if xs.length ≤ sizeLine then newL hint xs M else .bad
def eIx (a b : Den) : Den := fun δ M => (a δ M).bind fun x M => (b δ M).bind fun y M => ixD x y M
abbrev DenO := Slots → Mem → Res (Option Int)
def oNone : DenO := fun _ M => .ok none M
def oSome (a : Den) : DenO := fun δ M => (a δ M).bind fun x M => match x with
  | .int i => .ok (some i) M
  | _ => .bad
def eSl (a : Den) (lo hi : DenO) : Den := fun δ M => (a δ M).bind fun x M => (lo δ M).bind fun l M => (hi δ M).bind fun h M => slD x l h M
/-- {}: a new dict (kept as an object) -/
def eDict0 : Den := fun _ M => .ok (.ref M.length) (M ++ [.dct []])

/-! ### targets -/
inductive T1 where
  | nm (i : Nat)
  | tp (is : List Nat)
inductive Tgt where
  | nm (i : Nat)
  | tp (ts : List T1)
def setNs : List Nat → List D → Slots → Option Slots
  | [], [], δ => some δ
  | i :: r, d :: ds, δ => setNs r ds (δ.set i (some d))
  | _, _, _ => none
def setT1 : T1 → D → Slots → Option Slots
  | .nm i, d, δ => some (δ.set i (some d))
  | .tp is, .tup ds, δ => setNs is ds δ
  | _, _, _ => none
def setT1s : List T1 → List D → Slots → Option Slots
  | [], [], δ => some δ
  | t :: r, d :: ds, δ => (setT1 t d δ).bind fun δ => setT1s r ds δ
  | _, _, _ => none
def T1.sl : T1 → List Nat
  | .nm i => [i]
  | .tp is => is
def T1.sls : List T1 → List Nat
  | [] => []
  | t :: r => t.sl ++ T1.sls r
def Tgt.sl : Tgt → List Nat
  | .nm i => [i]
  | .tp ts => T1.sls ts
def setT : Tgt → D → Slots → Option Slots
  | .nm i, d, δ => some (δ.set i (some d))
  | .tp ts, .tup ds, δ => setT1s ts ds δ
  | _, _, _ => none

/-! ### what is walked: the items, and what must stay as it is meanwhile -/
abbrev Gd := List (Nat × List D)
abbrev DenI := Slots → Mem → Res (List D × Gd)
def gdOk (g : Gd) (M : Mem) : Bool := g.all fun p => match lstAt M p.1 with
  | some xs => D.sameL xs p.2
  | none => false
/-- a list with its guard -/
def seqG (M : Mem) : D → Option (List D × Gd)
  | .lst xs => some (xs, [])
  | .frz xs => some (xs, [])
  | .ref n => (lstAt M n).map fun xs => (xs, [(n, xs)])
  | _ => none
def iSeq (a : Den) : DenI := fun δ M => (a δ M).bind fun x M => match x with
  | .tup xs => .ok (xs, []) M
  | .str s => .ok (s.cps.toList.map fun c => .str ⟨#[c]⟩, []) M
  | x => (match seqG M x with
    | some p => .ok p M
    | none => .bad)
def rangeD (lo : Int) (n : Nat) : List D := (List.range n).map fun (i : Nat) => .int (lo + (i : Int))
def in62 (i : Int) : Bool := decide (-(2 ^ 62) ≤ i) && decide (i < 2 ^ 62)
def rangeC (lo c : Int) (n : Nat) : List D := (List.range n).map fun (i : Nat) => .int (lo + (i : Int) * c)
def iRange1 (a : Den) : DenI := fun δ M => (a δ M).bind fun x M => match x with
  | .int j => if in62 j then .ok (rangeD 0 j.toNat, []) M else .bad
  | _ => .bad
def iRange2 (a b : Den) : DenI := fun δ M => (a δ M).bind fun x M => (b δ M).bind fun y M => match x, y with
  | .int i, .int j => if in62 i && in62 j then .ok (rangeD i (j - i).toNat, []) M else .bad
  | _, _ => .bad
def iRange3 (a b c : Den) : DenI := fun δ M => (a δ M).bind fun x M => (b δ M).bind fun y M => (c δ M).bind fun z M => match x, y, z with
  | .int i, .int j, .int k => if decide (k ≠ 0) && decide (k.natAbs < 1073741824) && Builtin.Range.small i j k && decide (0 ≤ Builtin.Range.rangeSize i j k) then .ok (rangeC i k (Builtin.Range.rangeSize i j k).toNat, []) M else .bad
  | _, _, _ => .bad
def enumD : Int → List D → List D
  | _, [] => []
  | i, x :: r => .tup [.int i, x] :: enumD (i + 1) r
def iEnum (a : Den) : DenI := fun δ M => (a δ M).bind fun x M => match seqG M x with
  | some (xs, g) => .ok (enumD 0 xs, g) M
  | none => .bad
def zipD : List D → List D → List D
  | x :: xs, y :: ys => .tup [x, y] :: zipD xs ys
  | _, _ => []
def iZip (a b : Den) : DenI := fun δ M => (a δ M).bind fun x M => (b δ M).bind fun y M => match x, y with
  | .tup xs, .tup ys => .ok (zipD xs ys, []) M
  | x, y => (match seqG M x, seqG M y with
    | some (xs, g), some (ys, g') => .ok (zipD xs ys, g ++ g') M
    | _, _ => .bad)

/-! ### comprehensions -/
def wipeD (δ : Slots) : List Nat → Slots
  | [] => δ
  | v :: vs => (wipeD δ vs).set v none
def testsD : List DenB → DenB
  | [] => fun _ M => .ok true M
  | [t] => t
  | _ :: _ :: _ => fun _ _ => .bad
def lcGo (tg : Tgt) (ts : DenB) (elt : Den) (g : Gd) (δ : Slots) : List D → Mem → Res (List D)
  | [], M => if gdOk g M then .ok [] M else .bad
  | x :: r, M => if gdOk g M then (match setT tg x δ with
      | some δ' => (ts δ' M).bind fun b M => if b then (elt δ' M).bind fun y M => (lcGo tg ts elt g δ r M).bind fun ys M => .ok (y :: ys) M
        else lcGo tg ts elt g δ r M
      | none => .bad) else .bad
/-- no exception leaves -/
def noErr {α : Type} : Res α → Res α
  | .err _ _ _ => .bad
  | r => r
def eLc (hint : Bool) (vs : List Nat) (src : DenI) (tg : Tgt) (ts : DenB) (elt : Den) : Den := fun δ M => (src δ M).bind fun p M =>
  (noErr (lcGo tg ts elt p.2 (wipeD δ vs) p.1 M)).bind fun ys M => if ys.length ≤ sizeLine then newL hint ys M else .bad

/-! ### statements -/
inductive Fl where
  | nx (δ : Slots) | rt (d : D) | bk (δ : Slots) | ct (δ : Slots)
abbrev DenS := Slots → Mem → Res Fl
def sBad : DenS := fun _ _ => .bad
def sNx : DenS := fun δ M => .ok (.nx δ) M
def sSeq (a b : DenS) : DenS := fun δ M => (a δ M).bind fun f M => match f with
  | .nx δ => b δ M
  | f => .ok f M
def sSet (tg : Tgt) (a : Den) : DenS := fun δ M => (a δ M).bind fun x M => match setT tg x δ with
  | some δ => .ok (.nx δ) M
  | none => .bad
/-- a, b = e1, e2 -/
def sPar (i j : Nat) (a b : Den) : DenS := fun δ M => (a δ M).bind fun x M => (b δ M).bind fun y M => .ok (.nx ((δ.set i (some x)).set j (some y))) M
def sSetIx (o i a : Den) : DenS := fun δ M => (a δ M).bind fun v M => (o δ M).bind fun x M => (i δ M).bind fun y M => match setIx x y v M with
  | some M => .ok (.nx δ) M
  | none => .bad
def sRet (a : Den) : DenS := fun δ M => (a δ M).bind fun x M => .ok (.rt x) M
def sDrop (a : Den) : DenS := fun δ M => (a δ M).bind fun _ M => .ok (.nx δ) M
def sIf (t : DenB) (a b : DenS) : DenS := fun δ M => (t δ M).bind fun c M => if c then a δ M else b δ M
def forGo (tg : Tgt) (body : DenS) (g : Gd) : List D → DenS
  | [], δ, M => if gdOk g M then .ok (.nx δ) M else .bad
  | x :: r, δ, M => if gdOk g M then (match setT tg x δ with
      | some δ => (body δ M).bind fun f M => match f with
        | .nx δ => forGo tg body g r δ M
        | .ct δ => forGo tg body g r δ M
        | .bk δ => .ok (.nx δ) M
        | .rt d => .ok (.rt d) M
      | none => .bad) else .bad
def sFor (src : DenI) (tg : Tgt) (body : DenS) : DenS := fun δ M => (src δ M).bind fun p M => forGo tg body p.2 p.1 δ M
def whileGo (t : DenB) (body : DenS) : Nat → DenS
  | 0, _, _ => .bad
  | n + 1, δ, M => (t δ M).bind fun c M => if c then (body δ M).bind fun f M => match f with
      | .nx δ => whileGo t body n δ M
      | .ct δ => whileGo t body n δ M
      | .bk δ => .ok (.nx δ) M
      | .rt d => .ok (.rt d) M
    else .ok (.nx δ) M
def sBk : DenS := fun δ M => .ok (.bk δ) M
def sCt : DenS := fun δ M => .ok (.ct δ) M
end Ev

namespace Ev
open PySem
/-! ### the text's defs -/
structure FnI where
  params : List Str
  dfl : List D
  N : List Str
  body : List Stmt
  scope : Scope
/-- what is known of the module: its defs, its constants, the builtins' names that it leaves alone; where lists are kept as objects; a bound for while's turns -/
structure Cfg where
  fns : List (Str × FnI)
  con : List (Str × D)
  free : List Str
  hints : List Pos
  wf : Nat
/-- .. and of a def that runs: its names by slot, calls -/
structure Ecx where
  c : Cfg
  N : List Str
  call : Str → List D → Mem → Res D

def ixOf (N : List Str) (x : Str) : Option Nat := N.findIdx? fun y => decide (y = x)
def isLoc (sc : Scope) (x : Str) : Bool := match sc.names.lookup x with
  | some .local => true
  | some .cell => true
  | some .free => true
  | _ => false
/-- a local or a cell: may be stored -/
def isSt (sc : Scope) (x : Str) : Bool := match sc.names.lookup x with
  | some .local => true
  | some .cell => true
  | _ => false
def isGl (sc : Scope) (x : Str) : Bool := match sc.names.lookup x with
  | some .globalImplicit => true
  | _ => false
def tyOf (x : Str) : Option String :=
  if x = "int" then some "int" else if x = "str" then some "str" else if x = "bool" then some "bool" else if x = "list" then some "list" else if x = "tuple" then some "tuple" else if x = "dict" then some "dict" else none
def eConst : Const → Den
  | .none => eC .non
  | .bool b => eC (.bl b)
  | .int i => eC (.int i)
  | .str s => eC (.str s)
  | _ => eBad
def oddName (x : Str) : Bool := decide (x = "__debug__") || decide (x = "__classdict__") || decide (x = "__name__")
def eName (X : Ecx) (sc : Scope) (x : Str) : Den :=
  if oddName x then eBad else
  if isLoc sc x then (match ixOf X.N x with
    | some i => eV i
    | none => eBad)
  else if isGl sc x then (match X.c.con.lookup x with
    | some d => eC d
    | none => if (X.c.fns.lookup x).isSome then eC (.fn x) else if X.c.free.contains x then (match tyOf x with
      | some t => eC (.ty t)
      | none => eBad) else eBad)
  else eBad

/-! ### a call's arguments by the parameters -/
/-- ps with their defaults, the positional values, the keywords' -/
def arrGo {α : Type} : List (Str × Option α) → List α → List (Str × α) → Option (List α)
  | [], [], _ => some []
  | [], _ :: _, _ => none
  | (p, _) :: ps, v :: vs, kw => if (kw.lookup p).isSome then none else (arrGo ps vs kw).map (v :: ·)
  | (p, o) :: ps, [], kw => match kw.lookup p with
    | some v => (arrGo ps [] kw).map (v :: ·)
    | none => (match o with
      | some d => (arrGo ps [] kw).map (d :: ·)
      | none => none)
def withDfl {α : Type} (ps : List Str) (dfl : List α) : List (Str × Option α) := ps.zip (List.replicate (ps.length - dfl.length) none ++ dfl.map some)
/-! ### builtins -/
inductive Bi where
  | len | isinstance | all | any | sum | tuple | list | max | min | int | sorted | repr | str | bool
  deriving DecidableEq
def biOf (x : Str) : Option Bi :=
  if x = "len" then some .len else if x = "isinstance" then some .isinstance else if x = "all" then some .all else if x = "any" then some .any else if x = "sum" then some .sum
  else if x = "tuple" then some .tuple else if x = "list" then some .list else if x = "max" then some .max else if x = "min" then some .min else if x = "int" then some .int
  else if x = "sorted" then some .sorted else if x = "repr" then some .repr else if x = "str" then some .str else if x = "bool" then some .bool else none
def boolsOf : List D → Option (List Bool)
  | [] => some []
  | .bl b :: r => (boolsOf r).map (b :: ·)
  | _ => none
def kindD (M : Mem) : D → Option String
  | .non => some "NoneType"
  | .bl _ => some "bool"
  | .int _ => some "int"
  | .str _ => some "str"
  | .tup _ => some "tuple"
  | .lst _ => some "list"
  | .frz _ => some "list"
  | .ref n => (match M[n]? with
    | some (.lst _) => some "list"
    | _ => none)
  | _ => none
def isTyD (k t : String) : Bool := decide (k = t) || (decide (k = "bool") && decide (t = "int"))
def tysOf : List D → Option (List String)
  | [] => some []
  | .ty t :: r => (tysOf r).map (t :: ·)
  | _ => none
def okTys : List String := ["int", "str", "bool", "list", "tuple", "dict"]
def isiD (M : Mem) (x t : D) : Option Bool := match kindD M x, t with
  | some k, .ty t => if okTys.contains t then some (isTyD k t) else none
  | some k, .tup ts => (match tysOf ts with
    | some ts => if ts.all okTys.contains then some (ts.any (isTyD k)) else none
    | none => none)
  | _, _ => none
def reprD (M : Mem) (x : D) : Option Str := match toP M 70 x with
  | some p => if p.showable && !p.hasDict && decide (p.depth ≤ 64) && decide (p.shown.length ≤ sizeLine) then some p.shown else none
  | none => none
def biD (b : Bi) (xs : List D) (M : Mem) : Res D := match b, xs with
  | .len, [.str s] => guardR (decide (s.length ≤ sizeLine)) (.int s.length) M
  | .len, [x] => (match anyOf M x with
    | some ys => .ok (.int ys.length) M
    | none => .bad)
  | .isinstance, [x, t] => optR (isiD M x t) M
  | .all, [x] => (match (seqOf M x).bind boolsOf with
    | some bs => .ok (.bl (bs.all id)) M
    | none => .bad)
  | .any, [x] => (match (seqOf M x).bind boolsOf with
    | some bs => .ok (.bl (bs.any id)) M
    | none => .bad)
  | .sum, [x] => (match (seqOf M x).bind intsOf with
    | some is => .ok (.int is.sum) M
    | none => .bad)
  | .tuple, [.tup xs] => .ok (.tup xs) M
  | .tuple, [x] => (match seqOf M x with
    | some xs => .ok (.tup xs) M
    | none => .bad)
  | .max, [.int i, .int j] => .ok (.int (if j > i then j else i)) M
  | .min, [.int i, .int j] => .ok (.int (if j < i then j else i)) M
  | .int, [.int i] => .ok (.int i) M
  | .int, [.bl b] => .ok (.int (if b then 1 else 0)) M
  | .repr, [x] => (match reprD M x with
    | some s => .ok (.str s) M
    | none => .bad)
  | _, _ => .bad
def eBi (b : Bi) (as : List (Bool × Den)) : Den := fun δ M => (eL as δ M).bind fun xs M => biD b xs M
/-- list(x): a new list, kept as an object or not -/
def eList (hint : Bool) (as : List (Bool × Den)) : Den := fun δ M => (eL as δ M).bind fun xs M => match xs with
  | [x] => (match anyOf M x with
    | some ys => newL hint ys M
    | none => .bad)
  | _ => .bad
/-- tuple(range(..)) -/
def tupRg (i j : Int) (M : Mem) : Res D := if in62 i && in62 j && decide (j - i ≤ 16777216) then .ok (.tup (rangeD i (j - i).toNat)) M else .bad
def eTupRg1 (a : Den) : Den := fun δ M => (a δ M).bind fun x M => match x with
  | .int j => tupRg 0 j M
  | _ => .bad
def eTupRg2 (a b : Den) : Den := fun δ M => (a δ M).bind fun x M => (b δ M).bind fun y M => match x, y with
  | .int i, .int j => tupRg i j M
  | _, _ => .bad
/-! ### methods -/
/-- o.append(a): o is an object of the memory -/
def eAppend (o a : Den) : Den := fun δ M => (o δ M).bind fun x M => match x with
  | .ref n => (match lstAt M n with
    | some _ => (a δ M).bind fun v M => (match lstAt M n with
      | some ys => if ys.length < sizeLine then .ok .non (M.set n (.lst (ys ++ [v]))) else .bad
      | none => .bad)
    | none => .bad)
  | _ => .bad
def eBits (o : Den) : Den := fun δ M => (o δ M).bind fun x M => match x with
  | .int i => .ok (.int ((Builtin.Int.intBits i : Nat) : Int)) M
  | _ => .bad
/-- no call without arguments (super()) -/
def plainBase : Expr → Bool
  | .Call (.Name _ _) [] [] _ => false
  | _ => true

/-! ### calls -/
def eCall (call : List D → Mem → Res D) (ps : List (Str × Option D)) (as : List (Bool × Den)) (ks : List Str) (kws : List (Bool × Den)) : Den := fun δ M => if !ks.all (ps.map (·.1)).contains then .bad else (eL as δ M).bind fun vs M => (eL kws δ M).bind fun ws M =>
  match arrGo ps vs (ks.zip ws) with
  | some ds => noErr (call ds M)
  | none => .bad
/-- f(..), f a local name that holds a def -/
def eCallL (X : Ecx) (i : Nat) (as : List (Bool × Den)) (ks : List Str) (kws : List (Bool × Den)) : Den := fun δ M => match δ[i]? with
  | some (some (.fn x)) => (match X.c.fns.lookup x with
    | some f => eCall (X.call x) (withDfl f.params f.dfl) as ks kws δ M
    | none => .bad)
  | _ => .bad
def notSet : Expr → Bool
  | .Set _ _ _ => false
  | _ => true
def notSlice : Expr → Bool
  | .Slice _ _ _ _ => false
  | _ => true
def notComp : Expr → Bool
  | .ListComp _ _ _ _ => false
  | .SetComp _ _ _ _ => false
  | .DictComp _ _ _ _ _ => false
  | _ => true
def isTupE : Expr → Bool
  | .Tuple _ _ _ => true
  | _ => false
def noStar : Expr → Bool
  | .Starred _ _ => false
  | _ => true
/-- the keywords' names: each known, none twice -/
def kwNames : List Keyword → Option (List Str)
  | [] => some []
  | ⟨some k, _, _⟩ :: r => (kwNames r).bind fun ks => if ks.contains k then none else some (k :: ks)
  | _ => none
def distinct (ks : List Str) : Bool := decide ks.Nodup

/-! ### targets -/
def tgN (X : Ecx) (sc : Scope) : Expr → Option Nat
  | .Name x _ => if isSt sc x then ixOf X.N x else none
  | _ => none
def tgNs (X : Ecx) (sc : Scope) : List Expr → Option (List Nat)
  | [] => some []
  | e :: r => match tgN X sc e, tgNs X sc r with
    | some i, some is => some (i :: is)
    | _, _ => none
def tg1 (X : Ecx) (sc : Scope) : Expr → Option T1
  | .Tuple es _ _ => (tgNs X sc es).map .tp
  | e => (tgN X sc e).map .nm
def tg1s (X : Ecx) (sc : Scope) : List Expr → Option (List T1)
  | [] => some []
  | e :: r => match tg1 X sc e, tg1s X sc r with
    | some i, some is => some (i :: is)
    | _, _ => none
def tgt (X : Ecx) (sc : Scope) : Expr → Option Tgt
  | .Tuple es _ _ => (tg1s X sc es).map .tp
  | e => (tgN X sc e).map .nm

/-! ### a comprehension's block -/
/-- its own names that have slots -/
def ownOf (N : List Str) (bsc : Scope) : List (Str × Nat) := bsc.names.filterMap fun y => match y.2 with
  | .local => (ixOf N y.1).map fun i => (y.1, i)
  | .cell => (ixOf N y.1).map fun i => (y.1, i)
  | _ => none

/-! ### expressions -/
def optE {α : Type} (o : Option α) (f : α → Den) : Den := match o with
  | some a => f a
  | none => eBad
mutual
def den (X : Ecx) : Nat → Scope → Expr → Den
  | 0, _, _ => eBad
  | n + 1, sc, e => match e with
    | .Constant k _ _ => eConst k
    | .Name x _ => eName X sc x
    | .BinOp a op b _ => eBin op (den X n sc a) (den X n sc b)
    | .UnaryOp .Not a _ => eNot (den X n sc a)
    | .UnaryOp .USub a _ => eNeg (den X n sc a)
    | .BoolOp op vs _ => eBool op (vs.map (den X n sc))
    | .IfExp t a b _ => eIf (denT X n sc t) (den X n sc a) (den X n sc b)
    | .Compare a [op] [b] _ => if !notSet b then eBad else eCmp op (den X n sc a) (den X n sc b)
    | .Compare a [op, op'] [b, d] _ => if !notSet d then eBad else eCmp2 op op' (den X n sc a) (den X n sc b) (den X n sc d)
    | .Tuple es _ _ => eTup (es.map (denS X n sc))
    | .List es pos => eLst (X.c.hints.contains pos) (es.map (denS X n sc))
    | .Dict [] [] _ => eDict0
    | .Subscript v (.Slice lo hi none _) _ => eSl (den X n sc v) (denO X n sc lo) (denO X n sc hi)
    | .Subscript v i _ => if !notSlice i then eBad else eIx (den X n sc v) (den X n sc i)
    | .ListComp elt [⟨tg, it, ifs, 0⟩] bsc pos => if L2.blkC X.N sc bsc (ownOf X.N bsc) then
        optE (tgt X bsc tg) fun t => if !t.sl.all ((ownOf X.N bsc).map (·.2)).contains then eBad else eLc (X.c.hints.contains pos) ((ownOf X.N bsc).map (·.2)) (denI X n sc tg it) t (testsD (ifs.map (denT X n (L2.relS bsc sc)))) (den X n (L2.relS bsc sc) elt)
      else eBad
    | .Call (.Name x _) as ks pos => if oddName x || !as.all noStar then eBad else
        if isLoc sc x then optE (ixOf X.N x) fun i => optE (kwNames ks) fun kn => eCallL X i (as.map (denS X n sc)) kn (ks.map fun k => (false, den X n sc k.value))
        else if !isGl sc x then eBad else (match X.c.fns.lookup x with
        | some f => optE (kwNames ks) fun kn => eCall (X.call x) (withDfl f.params f.dfl) (as.map (denS X n sc)) kn (ks.map fun k => (false, den X n sc k.value))
        | none => if !X.c.free.contains x || !ks.isEmpty then eBad else (match as with
          | [.Call (.Name y _) rs [] _] => if decide (x = "tuple") && decide (y = "range") && isGl sc y && X.c.free.contains y && rs.all noStar then (match rs with
              | [a] => eTupRg1 (den X n sc a)
              | [a, b] => eTupRg2 (den X n sc a) (den X n sc b)
              | _ => eBad) else denB X n sc x as pos
          | _ => denB X n sc x as pos))
    | .Call (.Attribute o m apos) as [] pos => if !plainBase o || !(apos.endLine == pos.line) then eBad else (match as with
        | [] => if m = "bit_length" then eBits (den X n sc o) else eBad
        | [a] => if !noStar a then eBad else if m = "append" then eAppend (den X n sc o) (den X n sc a) else eBad
        | _ => eBad)
    | _ => eBad
/-- a builtin, called -/
def denB (X : Ecx) : Nat → Scope → Str → List Expr → Pos → Den
  | 0, _, _, _, _ => eBad
  | n + 1, sc, x, as, pos => if decide (x = "list") then eList (X.c.hints.contains pos) (as.map (denS X n sc)) else optE (biOf x) fun b => eBi b (as.map (denS X n sc))
/-- an item with its star -/
def denS (X : Ecx) : Nat → Scope → Expr → Bool × Den
  | 0, _, e => match e with
    | .Starred _ _ => (true, eBad)
    | _ => (false, eBad)
  | n + 1, sc, e => match e with
    | .Starred e _ => (true, den X n sc e)
    | e => (false, den X n sc e)
/-- a slice's part -/
def denO (X : Ecx) : Nat → Scope → Option Expr → DenO
  | 0, _, _ => fun _ _ => .bad
  | _ + 1, _, none => oNone
  | n + 1, sc, some e => oSome (den X n sc e)
def denT (X : Ecx) : Nat → Scope → Expr → DenB
  | 0, _, _ => fun _ _ => .bad
  | n + 1, sc, e => match e with
    | .UnaryOp .Not a _ => tNot (denT X n sc a)
    | .BoolOp op vs _ => tBool op (vs.map (denT X n sc))
    | .IfExp _ _ _ _ => fun _ _ => .bad
    | .Compare a [op] [b] _ => if !notSet b then fun _ _ => .bad else tCmp op (den X n sc a) (den X n sc b)
    | .Compare a [op, op'] [b, d] _ => if !notSet d then fun _ _ => .bad else tCmp2 op op' (den X n sc a) (den X n sc b) (den X n sc d)
    | .Compare _ _ _ _ => fun _ _ => .bad
    | e => tD (den X n sc e)
def denI (X : Ecx) : Nat → Scope → Expr → Expr → DenI
  | 0, _, _, _ => fun _ _ => .bad
  | n + 1, sc, tg, e => match e with
    | .Call (.Name x _) as [] _ => if decide (x = "range") && isGl sc x && X.c.free.contains x && as.all noStar then (match as with
          | [a] => iRange1 (den X n sc a)
          | [a, b] => iRange2 (den X n sc a) (den X n sc b)
          | [a, b, c] => iRange3 (den X n sc a) (den X n sc b) (den X n sc c)
          | _ => fun _ _ => .bad)
        else if decide (x = "enumerate") && isGl sc x && X.c.free.contains x && isTupE tg then (match as with
          | [a] => if noStar a then iEnum (den X n sc a) else fun _ _ => .bad
          | _ => fun _ _ => .bad)
        else if decide (x = "zip") && isGl sc x && X.c.free.contains x && isTupE tg then (match as with
          | [a, b] => if noStar a && noStar b then iZip (den X n sc a) (den X n sc b) else fun _ _ => .bad
          | _ => fun _ _ => .bad)
        else iSeq (den X n sc e)
    | .Set _ _ _ => fun _ _ => .bad
    | e => iSeq (den X n sc e)
end
/-! ### statements -/
/-- a plain local name on the line -/
def nmF (sc : Scope) (line : Nat) : Expr → Option Str
  | .Name id pos => if sc.names.lookup id == some .local && pos.line == line then some id else none
  | _ => none
def swapN (sc : Scope) (ts : List Expr) : List Str := ts.filterMap (nmF sc ((ts.head?.map (·.pos.line)).getD 0))
/-- how a, b = e1, e2 is stored (as the text's compiler does): from the names, or by a tuple -/
def swapS (sc : Scope) (ts vs : List Expr) : Option (Option (List Str)) :=
  if !(ts.length == 2 || ts.length == 3) || vs.length != ts.length then some none else
  if !vs.all noStar then some none else
  if (swapN sc ts).length != ts.length || (swapN sc ts).eraseDups.length != (swapN sc ts).length then some none else
  if vs.all (foldedForSure 8) then some none else
  if vs.all (constantsAlone 8) then none else some (some (swapN sc ts))
def fd : Nat := 60
mutual
def denSt (X : Ecx) : Nat → Scope → Stmt → DenS
  | 0, _, _ => sBad
  | n + 1, sc, st => match st with
    | .Assign [.Name y _] e _ => (match tgN X sc (.Name y default) with
      | some i => sSet (.nm i) (den X fd sc e)
      | none => sBad)
    | .Assign [.Subscript o i _] e _ => if !notSlice i then sBad else sSetIx (den X fd sc o) (den X fd sc i) (den X fd sc e)
    | .Assign [.Tuple ts k p] e _ => (match e with
      | .Tuple vs _ _ => (match swapS sc ts vs, ts, vs with
        | some none, _, _ => (match tgt X sc (.Tuple ts k p) with
          | some t => sSet t (den X fd sc e)
          | none => sBad)
        | some (some [x, y]), [.Name x' _, .Name y' _], [v1, v2] => if decide (x = x') && decide (y = y') && decide (sc.names.lookup x = some .local) && decide (sc.names.lookup y = some .local) && decide (x ≠ y) && noStar v1 && noStar v2 then (match ixOf X.N x, ixOf X.N y with
          | some i, some j => sPar i j (den X fd sc v1) (den X fd sc v2)
          | _, _ => sBad) else sBad
        | _, _, _ => sBad)
      | e => (match tgt X sc (.Tuple ts k p) with
        | some t => sSet t (den X fd sc e)
        | none => sBad))
    | .Return (some e) _ => sRet (den X fd sc e)
    | .Return none _ => sRet (eC .non)
    | .Expr e _ => if !notComp e then sBad else sDrop (den X fd sc e)
    | .If t a b _ => sIf (denT X fd sc t) (denSts X n sc a) (denSts X n sc b)
    | .For tg it body [] _ => (match tgt X sc tg with
      | some t => sFor (denI X fd sc tg it) t (denSts X n sc body)
      | none => sBad)
    | .While t body [] _ => whileGo (denT X fd sc t) (denSts X n sc body) X.c.wf
    | .Pass _ => sNx
    | .Break _ => sBk
    | .Continue _ => sCt
    | _ => sBad
def denSts (X : Ecx) : Nat → Scope → List Stmt → DenS
  | 0, _, _ => sBad
  | _ + 1, _, [] => sNx
  | n + 1, sc, [st] => denSt X n sc st
  | n + 1, sc, st :: r => sSeq (denSt X n sc st) (denSts X n sc r)
end
/-! ### defs -/
def startD (N : List Str) (ds : List D) : Slots := ds.map some ++ List.replicate (N.length - ds.length) none
def endD (r : Res Fl) : Res D := match r with
  | .ok (.rt d) M => .ok d M
  | .ok (.nx _) M => .ok .non M
  | .ok _ _ => .bad
  | .err c fs M => .err c fs M
  | .bad => .bad
/-- a def's run, n calls deep -/
def callD (c : Cfg) : Nat → Str → List D → Mem → Res D
  | 0, _, _, _ => .bad
  | k + 1, x, ds, M => match c.fns.lookup x with
    | some f => if ds.length = f.params.length then endD (denSts ⟨c, f.N, callD c k⟩ fd f.scope f.body (startD f.N ds) M) else .bad
    | none => .bad
end Ev
set_option Elab.async false
set_option linter.all false
set_option maxRecDepth 100000
set_option maxHeartbeats 2000000
/-! Es1: what a value and the memory stand for in the abstract heap. -/
namespace Ev
open PySem PySem.Spec PyProof.Rows L2

/-- a list, a tuple of the written part -/
def KL (K : PySem.W.Frag) (a : Addr) (xs : List V) : Prop :=
  ∃ (o : Obj) (its : Array Value) (n : Nat), K.lookup a = some o ∧ o.cls = .type "list" ∧ o.dict = none ∧ o.data = .seq its n ∧ its.size ≤ sizeLine ∧ Vals xs its.toList
def KT (K : PySem.W.Frag) (a : Addr) (xs : List V) : Prop :=
  ∃ (o : Obj) (its : Array Value) (n : Nat), K.lookup a = some o ∧ o.cls = .type "tuple" ∧ o.data = .seq its n ∧ its.size ≤ sizeLine ∧ Vals xs its.toList
/-- where the memory's objects stand (none: given up) -/
structure Rho where
  o : List (Option Addr)
  /-- lists that a comprehension is making: no value knows them -/
  h : List Addr
/-- one of the memory's, or hidden -/
def Own (ρ : Rho) (a : Addr) : Prop := some a ∈ ρ.o ∨ a ∈ ρ.h
/-- it stands so, and is none of the memory's objects -/
def Fz (ρ : Rho) (H : Hp) (a : Addr) (u : HO) : Prop := H a = some u ∧ ¬ Own ρ a
def LAt (ρ : Rho) (H : Hp) (a : Addr) (xs : List V) : Prop := Fz ρ H a (.lst xs)
def TAt (K : PySem.W.Frag) (ρ : Rho) (H : Hp) (a : Addr) (xs : List V) : Prop := Fz ρ H a (.tup xs) ∨ KT K a xs
/-- a list that is only read -/
def FAt (K : PySem.W.Frag) (ρ : Rho) (H : Hp) (a : Addr) (xs : List V) : Prop := (Fz ρ H a (.lst xs) ∨ ∃ o, Fz ρ H a (.frz o (.lst xs))) ∨ KL K a xs
theorem TAt.sq {K : PySem.W.Frag} {ρ : Rho} {H : Hp} {a : Addr} {xs : List V} (h : TAt K ρ H a xs) : SqT K H a xs := h.imp (fun q => .inl q.1) id
theorem FAt.sq {K : PySem.W.Frag} {ρ : Rho} {H : Hp} {a : Addr} {xs : List V} (h : FAt K ρ H a xs) : SqL K H a xs := h.imp (fun q => q.elim (fun q => .inl q.1) fun ⟨o, q⟩ => .inr ⟨o, q.1⟩) id

/-- the module: its written part, what its names hold -/
structure Wd where
  K : PySem.W.Frag
  mg : Str → Option Value
  prog : Program
  w : World
mutual
/-- the value v stands for d -/
def Rep (W : Wd) (ρ : Rho) (H : Hp) : D → V → Prop
  | .non, v => v = .non
  | .bl b, v => v = .bl b
  | .int i, v => v = .int i
  | .str s, v => v = .str s
  | .tup ds, v => ∃ a xs, v = .ref a ∧ TAt W.K ρ H a xs ∧ RepL W ρ H ds xs
  | .lst ds, v => ∃ a xs, v = .ref a ∧ LAt ρ H a xs ∧ RepL W ρ H ds xs
  | .frz ds, v => ∃ a xs, v = .ref a ∧ FAt W.K ρ H a xs ∧ RepL W ρ H ds xs
  | .ref n, v => n < ρ.o.length ∧ ∀ a, ρ.o[n]? = some (some a) → v = .ref a
  | .fn x, v => ∃ a, W.mg x = some (.ref a) ∧ v = .ref a
  | .ty n, v => v = .ty n
def RepL (W : Wd) (ρ : Rho) (H : Hp) : List D → List V → Prop
  | [], xs => xs = []
  | d :: ds, xs => ∃ v vs, xs = v :: vs ∧ Rep W ρ H d v ∧ RepL W ρ H ds vs
end

/-- what stood and was none of the memory's stands; the memory's objects keep their places or are given up -/
structure Ex0 (ρ : Rho) (H : Hp) (ρ' : Rho) (H' : Hp) : Prop where
  len : ρ.o.length ≤ ρ'.o.length
  old : ∀ n, n < ρ.o.length → ρ'.o[n]? = ρ.o[n]? ∨ ρ'.o[n]? = some none
  frz : ∀ a o, H a = some o → ¬ Own ρ a → H' a = some o ∧ ¬ Own ρ' a
/-- .. and what was hidden is, and stands -/
structure Ext (ρ : Rho) (H : Hp) (ρ' : Rho) (H' : Hp) : Prop extends Ex0 ρ H ρ' H' where
  hid : ∀ a ∈ ρ.h, a ∈ ρ'.h
  hkp : ∀ a ∈ ρ.h, H' a = H a
theorem Ext.refl (ρ : Rho) (H : Hp) : Ext ρ H ρ H := ⟨⟨Nat.le_refl _, fun _ _ => .inl rfl, fun _ _ h n => ⟨h, n⟩⟩, fun _ h => h, fun _ _ => rfl⟩
theorem Ex0.trans {ρ ρ1 ρ2 : Rho} {H H1 H2 : Hp} (a : Ex0 ρ H ρ1 H1) (b : Ex0 ρ1 H1 ρ2 H2) : Ex0 ρ H ρ2 H2 where
  len := Nat.le_trans a.len b.len
  old := fun n hn => by
    rcases b.old n (Nat.lt_of_lt_of_le hn a.len) with e | e
    · rcases a.old n hn with e' | e'
      · exact .inl (e.trans e')
      · exact .inr (e.trans e')
    · exact .inr e
  frz := fun c o h n => let ⟨h1, n1⟩ := a.frz c o h n; b.frz c o h1 n1
theorem Ext.trans {ρ ρ1 ρ2 : Rho} {H H1 H2 : Hp} (a : Ext ρ H ρ1 H1) (b : Ext ρ1 H1 ρ2 H2) : Ext ρ H ρ2 H2 where
  toEx0 := a.toEx0.trans b.toEx0
  hid := fun c hc => b.hid c (a.hid c hc)
  hkp := fun c hc => (b.hkp c (a.hid c hc)).trans (a.hkp c hc)
section
variable {W : Wd} {ρ ρ' : Rho} {H H' : Hp}
theorem Fz.ext0 (x : Ex0 ρ H ρ' H') {a : Addr} {u : HO} (h : Fz ρ H a u) : Fz ρ' H' a u := x.frz _ _ h.1 h.2
theorem TAt.ext0 {K : PySem.W.Frag} (x : Ex0 ρ H ρ' H') {a : Addr} {xs : List V} (h : TAt K ρ H a xs) : TAt K ρ' H' a xs := h.imp (·.ext0 x) id
theorem FAt.ext0 {K : PySem.W.Frag} (x : Ex0 ρ H ρ' H') {a : Addr} {xs : List V} (h : FAt K ρ H a xs) : FAt K ρ' H' a xs := h.imp (fun q => q.imp (·.ext0 x) fun ⟨o, q⟩ => ⟨o, q.ext0 x⟩) id
mutual
theorem Rep.ext0 (x : Ex0 ρ H ρ' H') : ∀ (d : D) (v : V), Rep W ρ H d v → Rep W ρ' H' d v
  | .non, _, h => h
  | .bl _, _, h => h
  | .int _, _, h => h
  | .str _, _, h => h
  | .tup ds, _, ⟨a, xs, e, t, r⟩ => ⟨a, xs, e, t.ext0 x, RepL.ext0 x ds xs r⟩
  | .lst ds, _, ⟨a, xs, e, t, r⟩ => ⟨a, xs, e, Fz.ext0 x t, RepL.ext0 x ds xs r⟩
  | .frz ds, _, ⟨a, xs, e, t, r⟩ => ⟨a, xs, e, t.ext0 x, RepL.ext0 x ds xs r⟩
  | .ref n, _, ⟨h, r⟩ => ⟨Nat.lt_of_lt_of_le h x.len, fun a e => by
      rcases x.old n h with q | q
      · exact r a (q ▸ e)
      · rw [q] at e; cases e⟩
  | .fn _, _, h => h
  | .ty _, _, h => h
theorem RepL.ext0 (x : Ex0 ρ H ρ' H') : ∀ (ds : List D) (vs : List V), RepL W ρ H ds vs → RepL W ρ' H' ds vs
  | [], _, h => h
  | d :: ds, _, ⟨v, vs, e, h, r⟩ => ⟨v, vs, e, Rep.ext0 x d v h, RepL.ext0 x ds vs r⟩
end
theorem Fz.ext (x : Ext ρ H ρ' H') {a : Addr} {u : HO} (h : Fz ρ H a u) : Fz ρ' H' a u := h.ext0 x.toEx0
theorem TAt.ext {K : PySem.W.Frag} (x : Ext ρ H ρ' H') {a : Addr} {xs : List V} (h : TAt K ρ H a xs) : TAt K ρ' H' a xs := h.ext0 x.toEx0
theorem FAt.ext {K : PySem.W.Frag} (x : Ext ρ H ρ' H') {a : Addr} {xs : List V} (h : FAt K ρ H a xs) : FAt K ρ' H' a xs := h.ext0 x.toEx0
theorem Rep.ext (x : Ext ρ H ρ' H') (d : D) (v : V) (h : Rep W ρ H d v) : Rep W ρ' H' d v := Rep.ext0 x.toEx0 d v h
theorem RepL.ext (x : Ext ρ H ρ' H') (ds : List D) (vs : List V) (h : RepL W ρ H ds vs) : RepL W ρ' H' ds vs := RepL.ext0 x.toEx0 ds vs h
theorem RepL.length : ∀ {ds : List D} {vs : List V}, RepL W ρ H ds vs → ds.length = vs.length
  | [], _, h => by cases h; rfl
  | d :: ds, _, ⟨v, vs, e, h, r⟩ => by subst e; simp [RepL.length r]
theorem RepL.get : ∀ {ds : List D} {vs : List V} {i : Nat} {d : D}, RepL W ρ H ds vs → ds[i]? = some d → ∃ v, vs[i]? = some v ∧ Rep W ρ H d v
  | [], _, _, _, _, e => by simp at e
  | d :: ds, _, 0, d', ⟨v, vs, e, h, r⟩, e' => by subst e; simp at e'; subst e'; exact ⟨v, rfl, h⟩
  | d :: ds, _, i + 1, d', ⟨v, vs, e, h, r⟩, e' => by
    subst e
    obtain ⟨w, h1, h2⟩ := RepL.get (i := i) r (by simpa using e')
    exact ⟨w, by simpa using h1, h2⟩
theorem RepL.append : ∀ {ds es : List D} {vs ws : List V}, RepL W ρ H ds vs → RepL W ρ H es ws → RepL W ρ H (ds ++ es) (vs ++ ws)
  | [], _, _, _, h, s => by cases h; exact s
  | d :: ds, es, _, ws, ⟨v, vs, e, h, r⟩, s => by subst e; exact ⟨v, vs ++ ws, rfl, h, RepL.append r s⟩
theorem RepL.take : ∀ {ds : List D} {vs : List V} (n : Nat), RepL W ρ H ds vs → RepL W ρ H (ds.take n) (vs.take n)
  | _, _, 0, _ => by simp [RepL]
  | [], _, n + 1, h => by cases h; simp [RepL]
  | d :: ds, _, n + 1, ⟨v, vs, e, h, r⟩ => by subst e; exact ⟨v, vs.take n, rfl, h, RepL.take n r⟩
theorem RepL.drop : ∀ {ds : List D} {vs : List V} (n : Nat), RepL W ρ H ds vs → RepL W ρ H (ds.drop n) (vs.drop n)
  | _, _, 0, r => r
  | [], _, n + 1, h => by cases h; simp [RepL]
  | d :: ds, _, n + 1, ⟨v, vs, e, h, r⟩ => by subst e; simpa using RepL.drop n r
theorem RepL.set {d : D} {v : V} (q : Rep W ρ H d v) : ∀ {ds : List D} {vs : List V} (i : Nat), RepL W ρ H ds vs → RepL W ρ H (ds.set i d) (vs.set i v)
  | [], _, _, h => by cases h; simp [RepL]
  | e :: ds, _, 0, ⟨w, vs, rfl, h, r⟩ => ⟨v, vs, rfl, q, r⟩
  | e :: ds, _, i + 1, ⟨w, vs, rfl, h, r⟩ => ⟨w, vs.set i v, rfl, h, RepL.set q i r⟩
theorem RepL.rep {ds : List D} {vs : List V} (h : RepL W ρ H ds vs) : ∀ k : Nat, RepL W ρ H (List.replicate k ds).flatten (List.replicate k vs).flatten
  | 0 => by simp [RepL]
  | k + 1 => by simp only [List.replicate_succ, List.flatten_cons]; exact h.append (RepL.rep h k)
theorem RepL.one {d : D} {v : V} (h : Rep W ρ H d v) : RepL W ρ H [d] [v] := ⟨v, [], rfl, h, rfl⟩
theorem RepL.inv1 {d : D} {vs : List V} (h : RepL W ρ H [d] vs) : ∃ v, vs = [v] ∧ Rep W ρ H d v := by
  obtain ⟨v, ws, rfl, h, rfl⟩ := h
  exact ⟨v, rfl, h⟩
theorem RepL.inv2 {d e : D} {vs : List V} (h : RepL W ρ H [d, e] vs) : ∃ v w, vs = [v, w] ∧ Rep W ρ H d v ∧ Rep W ρ H e w := by
  obtain ⟨v, ws, rfl, h, w, xs, rfl, h2, rfl⟩ := h
  exact ⟨v, w, rfl, h, h2⟩
theorem RepL.inv3 {d e f : D} {vs : List V} (h : RepL W ρ H [d, e, f] vs) : ∃ v w u, vs = [v, w, u] ∧ Rep W ρ H d v ∧ Rep W ρ H e w ∧ Rep W ρ H f u := by
  obtain ⟨v, ws, rfl, h, w, xs, rfl, h2, u, ys, rfl, h3, rfl⟩ := h
  exact ⟨v, w, u, rfl, h, h2, h3⟩
theorem RepL.zero {vs : List V} (h : RepL W ρ H [] vs) : vs = [] := h

/-! ### dicts: keys are tuples of ints, texts, such tuples -/
mutual
def keyN : D → NestedKey
  | .int i => .num i
  | .str x => .text x
  | .tup ds => .tup (keyNs ds)
  | _ => .none
def keyNs : List D → List NestedKey
  | [] => []
  | d :: ds => keyN d :: keyNs ds
end
/-- the dict's own object -/
def dFor (W : Wd) (a : Addr) (xs : List (NestedKey × Addr × Value)) (h : Heap) : Prop :=
  ∃ o es ep, h.get? a = some o ∧ o.ExactDict ∧ o.data = .dict es ep ∧ es.toList = xs.map (entryOfKey (nestedKind W.prog W.w))
/-- its entries -/
def DAt (W : Wd) (ρ : Rho) (H : Hp) : List (D × D) → List (NestedKey × Addr × Value) → Prop
  | [], [] => True
  | (kd, vd) :: r, (nk, b, u) :: s => (inD.keyOk kd = true ∧ keyN kd = nk ∧ Rep W ρ H kd (.ref b) ∧ ∃ v, RelV v u ∧ Rep W ρ H vd v) ∧ DAt W ρ H r s
  | _, _ => False
theorem DAt.ext0 (x : Ex0 ρ H ρ' H') : ∀ {kvs : List (D × D)} {xs : List (NestedKey × Addr × Value)}, DAt W ρ H kvs xs → DAt W ρ' H' kvs xs
  | [], [], _ => trivial
  | [], _ :: _, h => h
  | _ :: _, [], h => h
  | (kd, vd) :: r, (nk, b, u) :: s, ⟨⟨h1, h2, h3, v, h4, h5⟩, h⟩ => ⟨⟨h1, h2, Rep.ext0 x _ _ h3, v, h4, Rep.ext0 x _ _ h5⟩, DAt.ext0 x h⟩
theorem DAt.len : ∀ {kvs : List (D × D)} {xs : List (NestedKey × Addr × Value)}, DAt W ρ H kvs xs → kvs.length = xs.length
  | [], [], _ => rfl
  | [], _ :: _, h => h.elim
  | _ :: _, [], h => h.elim
  | (kd, vd) :: r, (nk, b, u) :: s, ⟨_, h⟩ => by simp [DAt.len h]
/-- one of the memory's objects at a -/
def ObAt (W : Wd) (ρ : Rho) (H : Hp) (a : Addr) : Ob → Prop
  | .lst ds => ∃ xs, H a = some (.lst xs) ∧ RepL W ρ H ds xs
  | .dct kvs => ∃ xs, H a = some (.ext (dFor W a xs)) ∧ (a == sysModules) = false ∧ (xs.map (·.1)).Nodup ∧ DAt W ρ H kvs xs
  | .dead => False
theorem ObAt.ext0 (x : Ex0 ρ H ρ' H') {a : Addr} (ha : H' a = H a) {o : Ob} (h : ObAt W ρ H a o) : ObAt W ρ' H' a o := by
  cases o with
  | lst ds => obtain ⟨xs, h, r⟩ := h; exact ⟨xs, by rw [ha]; exact h, RepL.ext0 x _ _ r⟩
  | dct kvs => obtain ⟨xs, h, h2, h3, h4⟩ := h; exact ⟨xs, by rw [ha]; exact h, h2, h3, h4.ext0 x⟩
  | dead => exact h.elim
structure MemAt (W : Wd) (ρ : Rho) (H : Hp) (M : Mem) : Prop where
  len : ρ.o.length = M.length
  ob : ∀ (n : Nat) (a : Addr), ρ.o[n]? = some (some a) → ∃ o, M[n]? = some o ∧ ObAt W ρ H a o
  live : ∀ (n : Nat) (o : Ob), M[n]? = some o → (match o with | .dead => True | _ => ∃ a, ρ.o[n]? = some (some a))
  inj : ∀ (n m : Nat) (a : Addr), ρ.o[n]? = some (some a) → ρ.o[m]? = some (some a) → n = m
  hid : ∀ a ∈ ρ.h, (∃ u, H a = some u) ∧ some a ∉ ρ.o
theorem ObAt.some {a : Addr} {o : Ob} (h : ObAt W ρ H a o) : ∃ u, H a = some u := by
  cases o with
  | lst ds => obtain ⟨xs, h, _⟩ := h; exact ⟨_, h⟩
  | dct kvs => obtain ⟨xs, h, _⟩ := h; exact ⟨_, h⟩
  | dead => exact h.elim
theorem MemAt.there {M : Mem} (m : MemAt W ρ H M) {a : Addr} (h : Own ρ a) : ∃ u, H a = some u := by
  rcases h with h | h
  rotate_left
  · exact (m.hid a h).1
  obtain ⟨n, hn, e⟩ := List.mem_iff_getElem.mp h
  obtain ⟨o, _, q⟩ := m.ob n a (by rw [List.getElem?_eq_getElem hn, e])
  exact q.some
theorem MemAt.fresh {M : Mem} (m : MemAt W ρ H M) {p : Addr} (hp : H p = none) : ¬ Own ρ p := fun h => by
  obtain ⟨u, e⟩ := m.there h
  rw [hp] at e; cases e
/-- a new object is laid: none of the memory's -/
theorem ext_new {M : Mem} (m : MemAt W ρ H M) {p : Addr} {o : HO} (hp : H p = none) : Ext ρ H ρ (upd H p o) :=
  ⟨⟨Nat.le_refl _, fun _ _ => .inl rfl, fun a u h n => ⟨by rw [upd_ne (ne_of_none h hp)]; exact h, n⟩⟩, fun _ h => h, fun a ha => by
    obtain ⟨u, e⟩ := (m.hid a ha).1
    exact upd_ne (ne_of_none e hp)⟩
theorem MemAt.keep {M : Mem} (m : MemAt W ρ H M) (x : Ext ρ H ρ H') (k : ∀ a, some a ∈ ρ.o → H' a = H a) : MemAt W ρ H' M where
  len := m.len
  ob := fun n a e => by
    obtain ⟨o, h1, h2⟩ := m.ob n a e
    refine ⟨o, h1, ?_⟩
    exact h2.ext0 x.toEx0 (k a (List.mem_of_getElem? e))
  live := m.live
  inj := m.inj
  hid := fun a ha => ⟨by rw [x.hkp a ha]; exact (m.hid a ha).1, (m.hid a ha).2⟩
theorem MemAt.new {M : Mem} (m : MemAt W ρ H M) {p : Addr} {o : HO} (hp : H p = none) : MemAt W ρ (upd H p o) M :=
  m.keep (ext_new m hp) fun a ha => by
    obtain ⟨u, e⟩ := m.there (.inl ha)
    exact upd_ne (ne_of_none e hp)
/-- a new object, one of the memory's from now on -/
theorem ext_alloc {M : Mem} (m : MemAt W ρ H M) {p : Addr} {o : HO} (hp : H p = none) : Ext ρ H ⟨ρ.o ++ [some p], ρ.h⟩ (upd H p o) where
  len := by simp
  old := fun n hn => .inl (by rw [List.getElem?_append_left hn])
  frz := fun a u h n => ⟨by rw [upd_ne (ne_of_none h hp)]; exact h, fun z => by
    rcases z with z | z
    · rcases List.mem_append.mp z with z | z
      · exact n (.inl z)
      · have e : a = p := by simpa using z
        rw [e, hp] at h; cases h
    · exact n (.inr z)⟩
  hid := fun _ h => h
  hkp := fun a ha => by
    obtain ⟨u, e⟩ := (m.hid a ha).1
    exact upd_ne (ne_of_none e hp)
theorem MemAt.allocO {M : Mem} (m : MemAt W ρ H M) {p : Addr} {ob : Ob} {u : HO} (hp : H p = none) (nd : ob ≠ .dead) (new : ObAt W ⟨ρ.o ++ [some p], ρ.h⟩ (upd H p u) p ob) : MemAt W ⟨ρ.o ++ [some p], ρ.h⟩ (upd H p u) (M ++ [ob]) := by
  have x := ext_alloc (o := u) m hp
  refine ⟨by simp [m.len], fun n a e => ?_, fun n o e => ?_, fun n k a e1 e2 => ?_, fun a ha => ?_⟩
  · simp only at e
    by_cases hn : n < ρ.o.length
    · rw [List.getElem?_append_left hn] at e
      obtain ⟨o, h1, h2⟩ := m.ob n a e
      refine ⟨o, by rw [List.getElem?_append_left (by rw [← m.len]; exact hn)]; exact h1, ?_⟩
      obtain ⟨u', hu⟩ := h2.some
      exact h2.ext0 x.toEx0 (upd_ne (ne_of_none hu hp))
    · rw [List.getElem?_append_right (by omega)] at e
      have hz : n - ρ.o.length = 0 := by
        by_cases z : n - ρ.o.length = 0
        · exact z
        · rw [List.getElem?_eq_none (by simp; omega)] at e; cases e
      have hnn : n = M.length := by have := m.len; omega
      rw [hz] at e
      have ea : p = a := by simpa using e
      subst ea
      exact ⟨ob, by subst hnn; simp, new⟩
  · by_cases hn : n < M.length
    · rw [List.getElem?_append_left hn] at e
      have q := m.live n o e
      cases o with
      | dead => trivial
      | lst ds => obtain ⟨a, q⟩ := q; exact ⟨a, by rw [List.getElem?_append_left (by rw [m.len]; exact hn)]; exact q⟩
      | dct ds => obtain ⟨a, q⟩ := q; exact ⟨a, by rw [List.getElem?_append_left (by rw [m.len]; exact hn)]; exact q⟩
    · have hnn : n = M.length := by
        by_cases z : n - M.length = 0
        · omega
        · rw [List.getElem?_append_right (by omega), List.getElem?_eq_none (by simp; omega)] at e; cases e
      subst hnn
      have q : (ρ.o ++ [some p])[M.length]? = some (some p) := by rw [← m.len]; simp
      cases o with
      | dead => trivial
      | lst ds => exact ⟨p, q⟩
      | dct ds => exact ⟨p, q⟩
  · have key : ∀ n, (ρ.o ++ [some p])[n]? = some (some a) → (n < ρ.o.length ∧ ρ.o[n]? = some (some a)) ∨ (n = ρ.o.length ∧ a = p) := fun n e => by
      by_cases hn : n < ρ.o.length
      · rw [List.getElem?_append_left hn] at e; exact .inl ⟨hn, e⟩
      · rw [List.getElem?_append_right (by omega)] at e
        by_cases z : n - ρ.o.length = 0
        · rw [z] at e; exact .inr ⟨by omega, by simpa using e.symm⟩
        · rw [List.getElem?_eq_none (by simp; omega)] at e; cases e
    have no : ∀ n, ρ.o[n]? = some (some a) → a ≠ p := fun n e z => m.fresh hp (.inl (by rw [← z]; exact List.mem_of_getElem? e))
    rcases key n e1 with ⟨h1, q1⟩ | ⟨h1, q1⟩ <;> rcases key k e2 with ⟨h2, q2⟩ | ⟨h2, q2⟩
    · exact m.inj n k a q1 q2
    · exact absurd q2 (no n q1)
    · exact absurd q1 (no k q2)
    · omega
  · obtain ⟨⟨u', e⟩, n⟩ := m.hid a ha
    refine ⟨⟨u', by rw [upd_ne (ne_of_none e hp)]; exact e⟩, fun z => ?_⟩
    rcases List.mem_append.mp z with z | z
    · exact n z
    · have ea : a = p := by simpa using z
      rw [ea, hp] at e; cases e
theorem MemAt.alloc {M : Mem} (m : MemAt W ρ H M) {p : Addr} {ds : List D} {xs : List V} (hp : H p = none) (r : RepL W ρ H ds xs) : MemAt W ⟨ρ.o ++ [some p], ρ.h⟩ (upd H p (.lst xs)) (M ++ [.lst ds]) :=
  m.allocO hp (fun z => by cases z) ⟨xs, upd_same, RepL.ext (ext_alloc (o := .lst xs) m hp) _ _ r⟩
/-- one of the memory's lists changes -/
theorem MemAt.lst {M : Mem} (m : MemAt W ρ H M) {n : Nat} {ds : List D} (e : M[n]? = some (.lst ds)) : ∃ a xs, ρ.o[n]? = some (some a) ∧ H a = some (.lst xs) ∧ RepL W ρ H ds xs := by
  obtain ⟨a, ha⟩ : ∃ a, ρ.o[n]? = some (some a) := m.live n _ e
  obtain ⟨o, h1, h2⟩ := m.ob n a ha
  rw [e] at h1; cases h1
  obtain ⟨xs, h, r⟩ := h2
  exact ⟨a, xs, ha, h, r⟩
theorem ext_put {M : Mem} (m : MemAt W ρ H M) {a : Addr} {o : HO} (ha : some a ∈ ρ.o) : Ext ρ H ρ (upd H a o) :=
  ⟨⟨Nat.le_refl _, fun _ _ => .inl rfl, fun b u h n => ⟨by rw [upd_ne (fun z : b = a => n (.inl (by rw [z]; exact ha)))]; exact h, n⟩⟩, fun _ h => h, fun b hb => upd_ne fun z => (m.hid b hb).2 (by rw [z]; exact ha)⟩
theorem MemAt.putO {M : Mem} (m : MemAt W ρ H M) {n : Nat} {a : Addr} {ob : Ob} {u : HO} (ha : ρ.o[n]? = some (some a)) (new : ObAt W ρ (upd H a u) a ob) : MemAt W ρ (upd H a u) (M.set n ob) := by
  have x : Ext ρ H ρ (upd H a u) := ext_put m (List.mem_of_getElem? ha)
  have hn : n < M.length := by
    obtain ⟨o, h1, _⟩ := m.ob n a ha
    exact (List.getElem?_eq_some_iff.mp h1).1
  refine ⟨by simp [m.len], fun k b e => ?_, fun k o e => ?_, m.inj, fun b hb => ⟨by rw [x.hkp b hb]; exact (m.hid b hb).1, (m.hid b hb).2⟩⟩
  · by_cases hk : k = n
    · subst hk
      rw [ha] at e
      have eb : a = b := by simpa using e
      subst eb
      exact ⟨ob, List.getElem?_set_self hn, new⟩
    · obtain ⟨o, h1, h2⟩ := m.ob k b e
      have hb : b ≠ a := fun z => hk (m.inj k n a (z ▸ e) ha)
      refine ⟨o, by rw [List.getElem?_set_ne (Ne.symm hk)]; exact h1, ?_⟩
      exact h2.ext0 x.toEx0 (upd_ne hb)
  · by_cases hk : k = n
    · subst hk
      cases o with
      | dead => trivial
      | lst ds => exact ⟨a, ha⟩
      | dct ds => exact ⟨a, ha⟩
    · rw [List.getElem?_set_ne (Ne.symm hk)] at e
      exact m.live k o e
theorem MemAt.put {M : Mem} (m : MemAt W ρ H M) {n : Nat} {a : Addr} {ds : List D} {xs : List V} (ha : ρ.o[n]? = some (some a)) (r : RepL W ρ H ds xs) : MemAt W ρ (upd H a (.lst xs)) (M.set n (.lst ds)) :=
  m.putO ha ⟨xs, upd_same, RepL.ext (ext_put m (List.mem_of_getElem? ha)) _ _ r⟩
theorem MemAt.dct {M : Mem} (m : MemAt W ρ H M) {n : Nat} {kvs : List (D × D)} (e : M[n]? = some (.dct kvs)) : ∃ a xs, ρ.o[n]? = some (some a) ∧ H a = some (.ext (dFor W a xs)) ∧ (a == sysModules) = false ∧ (xs.map (·.1)).Nodup ∧ DAt W ρ H kvs xs := by
  obtain ⟨a, ha⟩ : ∃ a, ρ.o[n]? = some (some a) := m.live n _ e
  obtain ⟨o, h1, h2⟩ := m.ob n a ha
  rw [e] at h1; cases h1
  obtain ⟨xs, q⟩ := h2
  exact ⟨a, xs, ha, q⟩
end
end Ev
set_option Elab.async false
set_option linter.all false
set_option maxRecDepth 100000
set_option maxHeartbeats 2000000
/-! Es2: an expression does what its meaning says: operators, comparisons, tests. -/
namespace Ev
open PySem PySem.Spec PyProof.Rows L2

/-- the fields of an error -/
def RepF (W : Wd) (ρ : Rho) (H : Hp) (fs : List (Str × D)) (fv : List (Str × V)) : Prop := fs.map (·.1) = fv.map (·.1) ∧ RepL W ρ H (fs.map (·.2)) (fv.map (·.2))
def ErrP (W : Wd) (ρ : Rho) (H : Hp) (c : Str) (fs : List (Str × D)) (M' : Mem) (E : XK) : Prop :=
  ∀ ρ' H' (C dd : Addr) fv, Ext ρ H ρ' H' → MemAt W ρ' H' M' → W.mg c = some (.ref C) → H' dd = some (.xd fv) → RepF W ρ' H' fs fv → E (.ref C) (some dd) H'
/-- what is wanted behind: Q of what stands for the result; E of an error -/
def Post {α β : Type} (W : Wd) (rel : Rho → Hp → α → β → Prop) (ρ : Rho) (H : Hp) (r : Res α) (Q : β → Hp → Prop) (E : XK) : Prop := match r with
  | .ok a M' => ∀ ρ' b H', Ext ρ H ρ' H' → MemAt W ρ' H' M' → rel ρ' H' a b → Q b H'
  | .err c fs M' => ErrP W ρ H c fs M' E
  | .bad => False
section
variable {α β γ ε : Type} {W : Wd} {rel : Rho → Hp → α → β → Prop} {rel2 : Rho → Hp → γ → ε → Prop} {ρ ρ' : Rho} {H H' : Hp} {E : XK}
theorem Post.mono {r : Res α} {Q Q' : β → Hp → Prop} (h : Post W rel ρ H r Q E) (k : ∀ b H, Q b H → Q' b H) : Post W rel ρ H r Q' E := by
  cases r with
  | ok a M => exact fun ρ' b H' x m q => k _ _ (h ρ' b H' x m q)
  | err c fs M => exact h
  | bad => exact h
theorem Post.ext {r : Res α} {Q : β → Hp → Prop} (x : Ext ρ H ρ' H') (h : Post W rel ρ H r Q E) : Post W rel ρ' H' r Q E := by
  cases r with
  | ok a M => exact fun ρ2 b H2 y m q => h ρ2 b H2 (x.trans y) m q
  | err c fs M => exact fun ρ2 H2 C dd fv y => h ρ2 H2 C dd fv (x.trans y)
  | bad => exact h
theorem Post.bind {r : Res α} {f : α → Mem → Res γ} {Q : ε → Hp → Prop} (h : Post W rel2 ρ H (r.bind f) Q E) :
    Post W rel ρ H r (fun b H1 => ∃ ρ1 a M1, Ext ρ H ρ1 H1 ∧ MemAt W ρ1 H1 M1 ∧ rel ρ1 H1 a b ∧ Post W rel2 ρ1 H1 (f a M1) Q E) E := by
  cases r with
  | ok a M => exact fun ρ' b H' x m q => ⟨ρ', a, M, x, m, q, Post.ext x h⟩
  | err c fs M => exact h
  | bad => exact h
/-- a value as it is, nothing new -/
theorem Post.here {a : α} {M : Mem} {Q : β → Hp → Prop} {b : β} (h : Post W rel ρ H (.ok a M) Q E) (m : MemAt W ρ H M) (r : rel ρ H a b) : Q b H := h ρ b H (Ext.refl _ _) m r
end

/-- the slots -/
def SRep (W : Wd) (ρ : Rho) (H : Hp) (δ : Slots) (σ : L2.St) : Prop := δ.length = σ.length ∧ ∀ (i : Nat) (d : D), δ[i]? = some (some d) → ∃ v, σ[i]? = some (some v) ∧ Rep W ρ H d v
theorem SRep.ext {W : Wd} {ρ ρ' : Rho} {H H' : Hp} {δ : Slots} {σ : L2.St} (x : Ext ρ H ρ' H') (s : SRep W ρ H δ σ) : SRep W ρ' H' δ σ :=
  ⟨s.1, fun i d e => let ⟨v, h, r⟩ := s.2 i d e; ⟨v, h, Rep.ext x d v r⟩⟩
abbrev rEq {α : Type} : Rho → Hp → α → α → Prop := fun _ _ a b => a = b
/-- the readings -/
def tI (W : Wd) (E : XK) (d : Den) : TE := fun σ H Q => ∃ ρ δ M, SRep W ρ H δ σ ∧ MemAt W ρ H M ∧ Post W (Rep W) ρ H (d δ M) Q E
def tT (W : Wd) (E : XK) (d : DenB) : TT := fun σ H Q => ∃ ρ δ M, SRep W ρ H δ σ ∧ MemAt W ρ H M ∧ Post W rEq ρ H (d δ M) Q E
def tA (W : Wd) (E : XK) (d : DenL) : TA := fun σ H Q => ∃ ρ δ M, SRep W ρ H δ σ ∧ MemAt W ρ H M ∧ Post W (RepL W) ρ H (d δ M) Q E
def tO (W : Wd) (E : XK) (d : DenO) : TO := fun σ H Q => ∃ ρ δ M, SRep W ρ H δ σ ∧ MemAt W ρ H M ∧ Post W rEq ρ H (d δ M) Q E
abbrev Im (X : L2.Cx) (W : Wd) (E : XK) (e : Expr) (d : Den) : Prop := PE X e (tI W E d)
abbrev ImT (X : L2.Cx) (W : Wd) (E : XK) (e : Expr) (d : DenB) : Prop := PT X e (tT W E d)
abbrev ImA (X : L2.Cx) (W : Wd) (E : XK) (es : List Expr) (d : DenL) : Prop := PA X es (tA W E d)
abbrev ImO (X : L2.Cx) (W : Wd) (E : XK) (e : Option Expr) (d : DenO) : Prop := PO X e (tO W E d)
section
variable {X : L2.Cx} {e : Expr}
theorem PEimp {t t' : TE} (h : PE X e t) (k : ∀ σ H Q, t' σ H Q → t σ H Q) : PE X e t' := ⟨fun pins s σ H Q I q => h.run pins s σ H Q I (k _ _ _ q)⟩
theorem PTimp {t t' : TT} (h : PT X e t) (k : ∀ σ H Q, t' σ H Q → t σ H Q) : PT X e t' := ⟨fun pins s σ H Q I q => h.run pins s σ H Q I (k _ _ _ q)⟩
theorem PWimp {t t' : TT} (h : PW X e t) (k : ∀ σ H Q, t' σ H Q → t σ H Q) : PW X e t' := ⟨fun w pins s σ H Q I q => h.run w pins s σ H Q I (k _ _ _ q)⟩
theorem PAimp {es : List Expr} {t t' : TA} (h : PA X es t) (k : ∀ σ H Q, t' σ H Q → t σ H Q) : PA X es t' := ⟨fun pos pins s σ H Q I q => h.run pos pins s σ H Q I (k _ _ _ q)⟩
variable {W : Wd} {E : XK}
/-- no meaning: nothing is claimed -/
theorem im_bad : Im X W E e eBad := ⟨fun pins s σ H Q I h => let ⟨_, _, _, _, _, p⟩ := h; False.elim p⟩
theorem imT_bad : ImT X W E e (fun _ _ => .bad) := ⟨fun pins s σ H Q I h => let ⟨_, _, _, _, _, p⟩ := h; False.elim p⟩
/-- two in a row -/
theorem seq2 {da db : Den} {f : D → D → Mem → Res D} {σ : L2.St} {H : Hp} {Q : VK} {r : V → V → Hp → Prop}
    (h : tI W E (fun δ M => (da δ M).bind fun x M => (db δ M).bind fun y M => f x y M) σ H Q)
    (k : ∀ ρ H a b M v w, MemAt W ρ H M → Rep W ρ H a v → Rep W ρ H b w → Post W (Rep W) ρ H (f a b M) Q E → r v w H) :
    tI W E da σ H fun x H1 => tI W E db σ H1 fun y H2 => r x y H2 := by
  obtain ⟨ρ, δ, M, s, m, p⟩ := h
  exact ⟨ρ, δ, M, s, m, (Post.bind p).mono fun x H1 ⟨ρ1, a, M1, x1, m1, r1, p1⟩ => ⟨ρ1, δ, M1, s.ext x1, m1, (Post.bind p1).mono fun y H2 ⟨ρ2, b, M2, x2, m2, r2, p2⟩ =>
    k ρ2 H2 a b M2 x y m2 (Rep.ext x2 _ _ r1) r2 p2⟩⟩
theorem seq1 {da : Den} {f : D → Mem → Res D} {σ : L2.St} {H : Hp} {Q : VK} {r : V → Hp → Prop}
    (h : tI W E (fun δ M => (da δ M).bind fun x M => f x M) σ H Q)
    (k : ∀ ρ H a M v, MemAt W ρ H M → Rep W ρ H a v → Post W (Rep W) ρ H (f a M) Q E → r v H) :
    tI W E da σ H fun x H1 => r x H1 := by
  obtain ⟨ρ, δ, M, s, m, p⟩ := h
  exact ⟨ρ, δ, M, s, m, (Post.bind p).mono fun x H1 ⟨ρ1, a, M1, x1, m1, r1, p1⟩ => k ρ1 H1 a M1 x m1 r1 p1⟩

/-! ### constants, names -/
theorem im_const {k : Const} {j : Nat} {pos : Pos} : Im X W E (.Constant k j pos) (eConst k) := by
  cases k with
  | none => exact PEimp pe_non fun σ H Q ⟨ρ, δ, M, s, m, p⟩ => Post.here (b := V.non) p m rfl
  | bool b => exact PEimp pe_bl fun σ H Q ⟨ρ, δ, M, s, m, p⟩ => Post.here (b := V.bl b) p m rfl
  | int i => exact PEimp pe_int fun σ H Q ⟨ρ, δ, M, s, m, p⟩ => Post.here (b := V.int i) p m rfl
  | str x => exact PEimp pe_str fun σ H Q ⟨ρ, δ, M, s, m, p⟩ => Post.here (b := V.str x) p m rfl
  | _ => exact im_bad
theorem im_var {i : Nat} {x : Str} {pos : Pos} (hN : X.N[i]? = some x) (hv : Vis X.env.scope x) (hd : (x == ("__debug__" : Str)) = false) (hcd : (x == ("__classdict__" : Str)) = false) : Im X W E (.Name x pos) (eV i) :=
  PEimp (pe_var hN hv hd hcd) fun σ H Q ⟨ρ, δ, M, s, m, p⟩ => by
    unfold eV at p
    split at p
    · rename_i d e
      obtain ⟨v, h, r⟩ := s.2 i d e
      exact ⟨v, h, Post.here p m r⟩
    · exact False.elim p

/-! ### lists by reading -/
/-- what reads as a list -/
theorem seqOf_at {W : Wd} {ρ : Rho} {H : Hp} {M : Mem} {d : D} {v : V} {ds : List D} (m : MemAt W ρ H M) (r : Rep W ρ H d v) (e : seqOf M d = some ds) : ∃ a xs, v = .ref a ∧ H a = some (.lst xs) ∧ RepL W ρ H ds xs := by
  cases d with
  | lst es =>
    have : es = ds := by simpa [seqOf] using e
    subst this
    obtain ⟨a, xs, rfl, t, q⟩ := r
    exact ⟨a, xs, rfl, t.1, q⟩
  | ref n =>
    obtain ⟨a, xs, h1, h2, h3⟩ := m.lst (lstAt_some e)
    obtain ⟨_, r⟩ := r
    exact ⟨a, xs, r a h1, h2, h3⟩
  | _ => simp [seqOf] at e
theorem anyOf_at {W : Wd} {ρ : Rho} {H : Hp} {M : Mem} {d : D} {v : V} {ds : List D} (m : MemAt W ρ H M) (r : Rep W ρ H d v) (e : anyOf M d = some ds) :
    ∃ a xs, v = .ref a ∧ (SqL W.K H a xs ∨ SqT W.K H a xs) ∧ RepL W ρ H ds xs := by
  by_cases h : ∃ es, d = .tup es
  · obtain ⟨es, rfl⟩ := h
    have : es = ds := by simpa [anyOf] using e
    subst this
    obtain ⟨a, xs, rfl, t, q⟩ := r
    exact ⟨a, xs, rfl, .inr t.sq, q⟩
  · by_cases h' : ∃ es, d = .frz es
    · obtain ⟨es, rfl⟩ := h'
      have : es = ds := by simpa [anyOf] using e
      subst this
      obtain ⟨a, xs, rfl, t, q⟩ := r
      exact ⟨a, xs, rfl, .inl t.sq, q⟩
    have e' : seqOf M d = some ds := by
      cases d with
      | tup es => exact absurd ⟨es, rfl⟩ h
      | frz es => exact absurd ⟨es, rfl⟩ h'
      | _ => exact e
    obtain ⟨a, xs, h1, h2, h3⟩ := seqOf_at m r e'
    exact ⟨a, xs, h1, .inl (.of h2), h3⟩
/-- a new list, kept as an object or not -/
theorem new_lst {W : Wd} {ρ : Rho} {H : Hp} {M : Mem} {hint : Bool} {ds : List D} {xs : List V} {Q : VK} {E : XK} (m : MemAt W ρ H M) (r : RepL W ρ H ds xs) (p : Post W (Rep W) ρ H (newL hint ds M) Q E) {a : Addr} (ha : H a = none) :
    Q (.ref a) (upd H a (.lst xs)) := by
  unfold newL at p
  cases hint with
  | true =>
    rw [if_pos rfl] at p
    refine p ⟨ρ.o ++ [some a], ρ.h⟩ (.ref a) _ (ext_alloc m ha) (m.alloc ha r) ⟨by simp [m.len], fun b hb => ?_⟩
    have : (ρ.o ++ [some a])[M.length]? = some (some a) := by rw [← m.len]; simp
    rw [this] at hb
    simpa using hb
  | false =>
    rw [if_neg (by decide)] at p
    have x := ext_new (o := .lst xs) m ha
    exact p ρ (.ref a) _ x (m.new ha) ⟨a, xs, rfl, ⟨upd_same, m.fresh ha⟩, RepL.ext x _ _ r⟩
theorem new_frz {W : Wd} {ρ : Rho} {H : Hp} {M : Mem} {ds : List D} {xs : List V} {Q : VK} {E : XK} (m : MemAt W ρ H M) (r : RepL W ρ H ds xs) (p : Post W (Rep W) ρ H (.ok (.lst ds) M) Q E) {a : Addr} (ha : H a = none) :
    Q (.ref a) (upd H a (.lst xs)) := new_lst (hint := false) m r p ha
theorem new_tup {W : Wd} {ρ : Rho} {H : Hp} {M : Mem} {ds : List D} {xs : List V} {Q : VK} {E : XK} (m : MemAt W ρ H M) (r : RepL W ρ H ds xs) (p : Post W (Rep W) ρ H (.ok (.tup ds) M) Q E) {a : Addr} (ha : H a = none) :
    Q (.ref a) (upd H a (.tup xs)) := by
  have x := ext_new (o := .tup xs) m ha
  exact p ρ (.ref a) _ x (m.new ha) ⟨a, xs, rfl, .inl ⟨upd_same, m.fresh ha⟩, RepL.ext x _ _ r⟩

/-! ### arithmetic -/
/-- f does what the operation does -/
def Op2 (W : Wd) (E : XK) (f : D → D → Mem → Res D) (r : R2) : Prop :=
  ∀ ρ H a b M v w Q, MemAt W ρ H M → Rep W ρ H a v → Rep W ρ H b w → Post W (Rep W) ρ H (f a b M) Q E → r v w H Q
theorem im_bin {op : Operator} {a b : Expr} {da db : Den} {pos : Pos} {r : R2} (ho : OpR X (binaryOp op) r) (hf : Op2 W E (binD op) r) (ha : Im X W E a da) (hb : Im X W E b db) : Im X W E (.BinOp a op b pos) (eBin op da db) :=
  PEimp (pe_op ho ha hb) fun σ H Q h => seq2 h fun ρ H a b M v w m ra rb p => hf ρ H a b M v w Q m ra rb p
theorem guardR_ok {b : Bool} {d : D} {M : Mem} {W : Wd} {ρ : Rho} {H : Hp} {Q : VK} {E : XK} (p : Post W (Rep W) ρ H (guardR b d M) Q E) : b = true ∧ Post W (Rep W) ρ H (.ok d M) Q E := by
  unfold guardR at p
  cases b with
  | true => exact ⟨rfl, p⟩
  | false => exact False.elim p
def rAddAll (K : PySem.W.Frag) : R2 := fun x y H Q => (∃ i j, x = .int i ∧ y = .int j ∧ Q (.int (i + j)) H) ∨ ((∃ i j, x = .str i ∧ y = .str j ∧ i.length + j.length ≤ sizeLine ∧ Q (.str (i ++ j)) H) ∨ (rCatA K x y H Q ∨ rCat x y H Q))
theorem op_addAll : OpR X (binaryOp .Add) (rAddAll X.K) := op_add.or (op_add_str.or (op_catA.or op_cat))
theorem f_add : Op2 W E addD (rAddAll W.K) := by
  intro ρ H a b M v w Q m ra rb p
  unfold addD at p
  split at p
  · rename_i i j
    exact .inl ⟨i, j, ra, rb, Post.here p m rfl⟩
  · rename_i i j
    obtain ⟨h, p⟩ := guardR_ok p
    exact .inr (.inl ⟨i, j, ra, rb, of_decide_eq_true h, Post.here p m rfl⟩)
  · rename_i ds es
    obtain ⟨h, p⟩ := guardR_ok p
    obtain ⟨a, xs, rfl, ta, qa⟩ := ra
    obtain ⟨b, ys, rfl, tb, qb⟩ := rb
    have l1 := qa.length
    have l2 := qb.length
    refine .inr (.inr (.inl ⟨a, b, xs, ys, rfl, rfl, ta.sq, tb.sq, by have := of_decide_eq_true h; omega, fun e => ?_, fun _ e => ?_, fun _ _ c hc => new_tup m (qa.append qb) p hc⟩))
    · have : ds = [] := List.length_eq_zero_iff.mp (by rw [l1, e]; rfl)
      subst this
      exact Post.here p m ⟨b, ys, rfl, tb, qb⟩
    · have : es = [] := List.length_eq_zero_iff.mp (by rw [l2, e]; rfl)
      subst this
      rw [List.append_nil] at p
      exact Post.here p m ⟨a, xs, rfl, ta, qa⟩
  · split at p
    · rename_i ds es e1 e2
      obtain ⟨h, p⟩ := guardR_ok p
      obtain ⟨a, xs, rfl, ta, qa⟩ := seqOf_at m ra e1
      obtain ⟨b, ys, rfl, tb, qb⟩ := seqOf_at m rb e2
      have l1 := qa.length
      have l2 := qb.length
      exact .inr (.inr (.inr ⟨a, b, xs, ys, rfl, rfl, ta, tb, by have := of_decide_eq_true h; omega, fun c hc => new_frz m (qa.append qb) p hc⟩))
    · exact False.elim p
theorem f_sub : Op2 W E subD (rI0 fun i j => .int (i - j)) := by
  intro ρ H a b M v w Q m ra rb p
  unfold subD at p
  split at p
  · exact ⟨_, _, ra, rb, Post.here p m rfl⟩
  · exact False.elim p
end
end Ev
set_option Elab.async false
set_option linter.all false
set_option maxRecDepth 100000
set_option maxHeartbeats 2000000
/-! Ed: dicts. -/
namespace Ev
open PySem PySem.Spec PyProof.Rows L2
/-- the context is of this module -/
structure Same (X : L2.Cx) (W : Wd) : Prop where
  K : X.K = W.K
  P : X.prog = W.prog
  w : X.w = W.w
section
variable {X : L2.Cx} {W : Wd} {E : XK} {ρ : Rho} {H : Hp} {M : Mem} {pins : List (Addr × Obj)} {σ : L2.St} {s : Shared}
/-! ### keys -/
theorem keys_is (hK : X.K = W.K) (I : Inv X pins σ H s) {n : Nat} (ih : ∀ d v u, inD.keyOkN n d = true → Rep W ρ H d v → RelV v u → NestedIs s.heap (keyN d) u ∧ (keyN d).depth ≤ n) : ∀ {ds : List D} {vs : List V} {us : List Value}, ds.all (inD.keyOkN n) = true → RepL W ρ H ds vs → Vals vs us →
    NestedAll s.heap (keyNs ds) us ∧ NestedKey.depthAll (keyNs ds) ≤ n
  | [], _, _, _, r, q => by cases r; cases q; exact ⟨.nil, Nat.zero_le _⟩
  | d :: ds, _, _, h, ⟨v, vs, e, r, rr⟩, q => by
    subst e
    simp only [List.all_cons, Bool.and_eq_true] at h
    cases q with
    | cons q qq =>
      obtain ⟨h1, h2⟩ := ih d v _ h.1 r q
      obtain ⟨h3, h4⟩ := keys_is hK I ih h.2 rr qq
      refine ⟨.cons h1 h3, ?_⟩
      show max (keyN d).depth (NestedKey.depthAll (keyNs ds)) ≤ n
      omega
theorem key_is (hK : X.K = W.K) (I : Inv X pins σ H s) : ∀ (n : Nat) (d : D) (v : V) (u : Value), inD.keyOkN n d = true → Rep W ρ H d v → RelV v u → NestedIs s.heap (keyN d) u ∧ (keyN d).depth ≤ n
  | 0, _, _, _, h, _, _ => by cases h
  | n + 1, d, v, u, h, r, q => by
    cases d with
    | int i =>
      cases r
      obtain ⟨t, rfl⟩ := q
      exact ⟨.int _ _, Nat.zero_le _⟩
    | str x =>
      cases r
      obtain ⟨t, rfl⟩ := q
      exact ⟨.text _ _, Nat.zero_le _⟩
    | tup ds =>
      obtain ⟨a, xs, rfl, t, r⟩ := r
      cases q
      obtain ⟨its, rv, p, hz⟩ := I.tuple (show SqT X.K H a xs by rw [hK]; exact t.sq)
      obtain ⟨o, e1, e2, m, e3⟩ := id p
      obtain ⟨h1, h2⟩ := keys_is hK I (key_is hK I n) (show ds.all (inD.keyOkN n) = true from h) r rv
      refine ⟨.tup e1 e2 e3 (by simpa using h1), ?_⟩
      show NestedKey.depthAll (keyNs ds) + 1 ≤ n + 1
      omega
    | _ => cases h
theorem ok8 {d : D} (h : inD.keyOk d = true) : inD.keyOkN 8 d = true ∧ ∃ ds, d = .tup ds := by
  cases d with
  | tup ds => exact ⟨h, ds, rfl⟩
  | _ => cases h
theorem key_at (hK : X.K = W.K) (I : Inv X pins σ H s) {d : D} {b : Addr} (h : inD.keyOk d = true) (r : Rep W ρ H d (.ref b)) : (nestedKind X.prog X.w).is s.heap (keyN d) b := key_is hK I 8 d (.ref b) (.ref b) (ok8 h).1 r rfl
theorem keyNs_inj {n : Nat} (ih : ∀ a b m, inD.keyOkN n a = true → inD.keyOkN m b = true → keyN a = keyN b → a = b) : ∀ {as bs : List D} {m : Nat}, as.all (inD.keyOkN n) = true → bs.all (inD.keyOkN m) = true → keyNs as = keyNs bs → as = bs
  | [], [], _, _, _, _ => rfl
  | [], _ :: _, _, _, _, h => by cases h
  | _ :: _, [], _, _, _, h => by cases h
  | a :: as, b :: bs, m, h1, h2, h => by
    simp only [List.all_cons, Bool.and_eq_true] at h1 h2
    have h : keyN a :: keyNs as = keyN b :: keyNs bs := h
    injection h with e1 e2
    rw [ih a b m h1.1 h2.1 e1, keyNs_inj ih h1.2 h2.2 e2]
theorem keyN_inj : ∀ (n : Nat) (a b : D) (m : Nat), inD.keyOkN n a = true → inD.keyOkN m b = true → keyN a = keyN b → a = b
  | 0, _, _, _, h, _, _ => by cases h
  | n + 1, a, b, m, h1, h2, h => by
    cases m with
    | zero => cases h2
    | succ m =>
      cases a with
      | int i => cases b <;> first | (injection h with e; rw [e]; done) | cases h | cases h2
      | str i => cases b <;> first | (injection h with e; rw [e]; done) | cases h | cases h2
      | tup as =>
        cases b with
        | tup bs =>
          have h : NestedKey.tup (keyNs as) = NestedKey.tup (keyNs bs) := h
          injection h with e
          rw [keyNs_inj (fun a b m => keyN_inj n a b m) (show as.all (inD.keyOkN n) = true from h1) (show bs.all (inD.keyOkN m) = true from h2) e]
        | int _ => cases h
        | str _ => cases h
        | _ => cases h2
      | _ => cases h1
mutual
theorem D.same_eq : ∀ {a b : D}, D.same a b = true → a = b
  | .non, b, h => by cases b <;> first | rfl | cases h
  | .bl x, b, h => by cases b <;> first | (simp only [D.same, beq_iff_eq, decide_eq_true_eq] at h; rw [h]) | (simp [D.same] at h)
  | .int x, b, h => by cases b <;> first | (simp only [D.same, beq_iff_eq, decide_eq_true_eq] at h; rw [h]) | (simp [D.same] at h)
  | .str x, b, h => by cases b <;> first | (simp only [D.same, beq_iff_eq, decide_eq_true_eq] at h; rw [h]) | (simp [D.same] at h)
  | .fn x, b, h => by cases b <;> first | (simp only [D.same, beq_iff_eq, decide_eq_true_eq] at h; rw [h]) | (simp [D.same] at h)
  | .ty x, b, h => by cases b <;> first | (simp only [D.same, beq_iff_eq, decide_eq_true_eq] at h; rw [h]) | (simp [D.same] at h)
  | .ref x, b, h => by cases b <;> first | (have : x = _ := Nat.eq_of_beq_eq_true h; subst this; rfl) | cases h
  | .tup x, b, h => by cases b <;> first | (rw [D.sameL_eq (show D.sameL x _ = true from h)]) | cases h
  | .lst x, b, h => by cases b <;> first | (rw [D.sameL_eq (show D.sameL x _ = true from h)]) | cases h
  | .frz x, b, h => by cases b <;> first | (rw [D.sameL_eq (show D.sameL x _ = true from h)]) | cases h
theorem D.sameL_eq : ∀ {a b : List D}, D.sameL a b = true → a = b
  | [], b, h => by cases b <;> first | rfl | cases h
  | x :: xs, b, h => by
    cases b with
    | nil => cases h
    | cons y ys =>
      have h' : (D.same x y && D.sameL xs ys) = true := h
      simp only [Bool.and_eq_true] at h'
      rw [D.same_eq h'.1, D.sameL_eq h'.2]
end
mutual
theorem D.same_refl : ∀ a : D, D.same a a = true
  | .non => rfl
  | .bl x => by simp [D.same]
  | .int x => by simp [D.same]
  | .str x => by simp [D.same]
  | .fn x => by simp [D.same]
  | .ty x => by simp [D.same]
  | .ref x => by simp [D.same]
  | .tup x => by rw [D.same]; exact D.sameL_refl x
  | .lst x => by rw [D.same]; exact D.sameL_refl x
  | .frz x => by rw [D.same]; exact D.sameL_refl x
theorem D.sameL_refl : ∀ a : List D, D.sameL a a = true
  | [] => rfl
  | x :: xs => by rw [D.sameL, D.same_refl x, D.sameL_refl xs]; rfl
end
theorem same_key {a b : D} (ha : inD.keyOk a = true) (hb : inD.keyOk b = true) : D.same a b = decide (keyN a = keyN b) := by
  by_cases h : keyN a = keyN b
  · have e := keyN_inj 8 a b 8 (ok8 ha).1 (ok8 hb).1 h
    subst e
    rw [D.same_refl]
    simp
  · cases hs : D.same a b with
    | false => simp [h]
    | true => exact absurd (by rw [D.same_eq hs]) h
/-! ### entries -/
theorem at_any {k : D} (hk : inD.keyOk k = true) : ∀ {kvs : List (D × D)} {xs : List (NestedKey × Addr × Value)}, DAt W ρ H kvs xs → (kvs.any fun kv => D.same kv.1 k) = (atKey xs (keyN k)).isSome
  | [], [], _ => rfl
  | [], _ :: _, h => h.elim
  | _ :: _, [], h => h.elim
  | (kd, vd) :: r, (nk, b, u) :: s, ⟨⟨h1, h2, _⟩, h⟩ => by
    subst h2
    have ih := at_any hk h
    unfold atKey at ih ⊢
    rw [List.any_cons, List.find?_cons, same_key h1 hk]
    by_cases e : keyN kd = keyN k
    · simp [e]
    · simp only [e, decide_false, Bool.false_or]
      exact ih
theorem at_get {k vd : D} (hk : inD.keyOk k = true) : ∀ {kvs : List (D × D)} {xs : List (NestedKey × Addr × Value)}, DAt W ρ H kvs xs → dctGet kvs k = some vd → ∃ p v, atKey xs (keyN k) = some p ∧ RelV v p.2 ∧ Rep W ρ H vd v
  | [], [], _, e => by cases e
  | [], _ :: _, h, _ => h.elim
  | _ :: _, [], h, _ => h.elim
  | (kd, vd') :: r, (nk, b, u) :: s, ⟨⟨h1, h2, _, v, h4, h5⟩, h⟩, e => by
    subst h2
    have ih := at_get (vd := vd) hk h
    unfold dctGet at ih e
    unfold atKey at ih ⊢
    rw [List.find?_cons] at e ⊢
    rw [same_key h1 hk] at e
    by_cases q : keyN kd = keyN k
    · simp only [q, decide_true] at e ⊢
      cases e
      exact ⟨(b, u), v, rfl, h4, h5⟩
    · simp only [q, decide_false] at e ⊢
      exact ih e
theorem put_id {nk : NestedKey} {u : Value} : ∀ {xs : List (NestedKey × Addr × Value)}, nk ∉ xs.map (·.1) → xs.map (putAt nk u) = xs
  | [], _ => rfl
  | x :: xs, h => by
    simp only [List.map_cons, List.mem_cons, not_or] at h
    rw [List.map_cons, put_id h.2]
    unfold putAt
    rw [if_neg fun z => h.1 z.symm]
theorem at_put {k vd : D} {b : Addr} {u : Value} {v : V} (hk : inD.keyOk k = true) (rk : Rep W ρ H k (.ref b)) (ru : RelV v u) (rv : Rep W ρ H vd v) : ∀ {kvs : List (D × D)} {xs : List (NestedKey × Addr × Value)}, (xs.map (·.1)).Nodup → DAt W ρ H kvs xs →
    DAt W ρ H (dctPut kvs k vd) (storedH xs (keyN k) b u)
  | [], [], _, _ => ⟨⟨hk, rfl, rk, v, ru, rv⟩, trivial⟩
  | [], _ :: _, _, h => h.elim
  | _ :: _, [], _, h => h.elim
  | (kd, vd') :: r, (nk, b', u') :: s, nd, ⟨⟨h1, h2, h3, v', h4, h5⟩, h⟩ => by
    subst h2
    obtain ⟨n1, n2⟩ := List.nodup_cons.mp (show (keyN kd :: s.map (·.1)).Nodup from nd)
    have ih := at_put hk rk ru rv n2 h
    unfold dctPut
    rw [same_key h1 hk]
    by_cases q : keyN kd = keyN k
    · have e1 : storedH ((keyN kd, b', u') :: s) (keyN k) b u = (keyN kd, b', u) :: s := by
        unfold storedH
        have e2 : (atKey ((keyN kd, b', u') :: s) (keyN k)).isSome = true := by unfold atKey; simp [q]
        rw [if_pos e2, List.map_cons, put_id (by rw [← q]; exact n1)]
        unfold putAt
        rw [if_pos q]
      rw [e1]
      simp only [q, decide_true, if_true]
      exact ⟨⟨h1, q, h3, v, ru, rv⟩, h⟩
    · have e2 : atKey ((keyN kd, b', u') :: s) (keyN k) = atKey s (keyN k) := by
        unfold atKey
        rw [List.find?_cons]
        simp only [q, decide_false]
      have e1 : storedH ((keyN kd, b', u') :: s) (keyN k) b u = (keyN kd, b', u') :: storedH s (keyN k) b u := by
        unfold storedH
        rw [e2]
        split
        · rw [List.map_cons]
          have : putAt (keyN k) u (keyN kd, b', u') = (keyN kd, b', u') := by
            unfold putAt
            rw [if_neg q]
          rw [this]
        · rfl
      rw [e1]
      simp only [q, decide_false, if_false, Bool.false_eq_true]
      exact ⟨⟨h1, rfl, h3, v', h4, h5⟩, ih⟩
theorem stored_nodup {nk : NestedKey} {b : Addr} {u : Value} {xs : List (NestedKey × Addr × Value)} (nd : (xs.map (·.1)).Nodup) : ((storedH xs nk b u).map (·.1)).Nodup := by
  unfold storedH
  split
  · have : (xs.map (putAt nk u)).map (·.1) = xs.map (·.1) := by
      rw [List.map_map]
      refine List.map_congr_left fun x _ => ?_
      show (putAt nk u x).1 = x.1
      unfold putAt
      split <;> rfl
    rw [this]
    exact nd
  · rename_i h
    rw [List.map_append, List.nodup_append]
    refine ⟨nd, by simp, fun x hx y hy e => h ?_⟩
    have ey : y = nk := by simpa using hy
    subst ey
    subst e
    obtain ⟨z, hz, ez⟩ := List.mem_map.mp hx
    unfold atKey
    rw [Option.isSome_map]
    exact List.find?_isSome.mpr ⟨z, hz, by simp [ez]⟩
/-! ### the rules -/
theorem dct_of (sm : Same X W) (I : Inv X pins σ H s) {a : Addr} {kvs : List (D × D)} {xs : List (NestedKey × Addr × Value)} (h : H a = some (.ext (dFor W a xs))) (nd : (xs.map (·.1)).Nodup) (hd : DAt W ρ H kvs xs) : s.heap.DictOfH (nestedKind X.prog X.w) a xs := by
  obtain ⟨⟨o, es, ep, e1, e2, e3, e4⟩, -, -⟩ := I.hok a _ h
  refine ⟨o, es, ep, e1, e2, e3, by rw [sm.P, sm.w]; exact e4, ?_, nd⟩
  clear e4 e3 e2 e1 nd h
  induction xs generalizing kvs with
  | nil => intro x hx; cases hx
  | cons x xs ih =>
    cases kvs with
    | nil => exact hd.elim
    | cons kv kvs =>
      obtain ⟨kd, vd⟩ := kv
      obtain ⟨nk, b, u⟩ := x
      obtain ⟨⟨h1, h2, h3, _⟩, h⟩ := hd
      intro y hy
      rcases List.mem_cons.mp hy with e | hy
      · subst e
        subst h2
        exact key_at sm.K I h1 h3
      · exact ih h y hy
theorem dct_stays {P : Program} {w : World} {W : Wd} {H : Hp} {h : Heap} {a : Addr} {xs : List (NestedKey × Addr × Value)} (x : dFor W a xs h) : ObjOk P w H h a (.ext (dFor W a xs)) := by
  refine ⟨x, let ⟨o, _, _, e, _⟩ := x; ⟨o, e⟩, fun h1 h2 ⟨o, es, ep, e1, e2, e3, e4⟩ k => ⟨o, es, ep, k o e1, e2, e3, e4⟩⟩
def rInK (W : Wd) (neg : Bool) : R2 := fun x y H Q => ∃ ρ M a n kvs, MemAt W ρ H M ∧ Rep W ρ H a x ∧ Rep W ρ H (.ref n) y ∧ M[n]? = some (.dct kvs) ∧ inD.keyOk a = true ∧ Q (.bl (xor neg (kvs.any fun kv => D.same kv.1 a))) H
theorem op_inK (sm : Same X W) (hu : X.A.units + 65 < cLine) : OpR X (compareOp .In) (rInK W false) := by
  intro pins s σ H x y v u Q I rx ry ⟨ρ, M, a, n, kvs, m, ra, rn, hn, hk, q⟩
  obtain ⟨c, xs, h1, h2, h3, h4, h5⟩ := m.dct hn
  obtain ⟨_, ds, rfl⟩ := ok8 hk
  obtain ⟨b, ys, rfl, t, r⟩ := ra
  have ey := rn.2 c h1
  subst ey
  cases rx
  cases ry
  refine wpAny_in_heap (k := keyN (.tup ds)) (show X.A.in1.units + 8 < cLine by show X.A.units + 1 + 8 < cLine; omega) (key_at sm.K I hk ⟨b, ys, rfl, t, r⟩) h3 (dct_of sm I h2 h4 h5) ?_
  refine ⟨.bl _, H, I.tok _, rfl, ?_⟩
  rw [← at_any hk h5]
  simpa using q
theorem op_notInK (sm : Same X W) (hu : X.A.units + 65 < cLine) : OpR X (compareOp .NotIn) (rInK W true) := by
  intro pins s σ H x y v u Q I rx ry ⟨ρ, M, a, n, kvs, m, ra, rn, hn, hk, q⟩
  obtain ⟨c, xs, h1, h2, h3, h4, h5⟩ := m.dct hn
  obtain ⟨_, ds, rfl⟩ := ok8 hk
  obtain ⟨b, ys, rfl, t, r⟩ := ra
  have ey := rn.2 c h1
  subst ey
  cases rx
  cases ry
  refine notIn_keyed (knd := nestedKind X.prog X.w) (k := keyN (.tup ds)) (kvs := pairsH xs) (show X.A.in1.units + 8 < cLine by show X.A.units + 1 + 8 < cLine; omega) (key_at sm.K I hk ⟨b, ys, rfl, t, r⟩) h3 ⟨xs, dct_of sm I h2 h4 h5, rfl⟩ ?_
  refine ⟨.bl _, H, I.tok _, rfl, ?_⟩
  rw [valueAt_pairsH, Option.isSome_map, ← at_any hk h5]
  simpa using q
def rIxK (W : Wd) : R2 := fun x y H Q => ∃ ρ M a n kvs d, MemAt W ρ H M ∧ Rep W ρ H a y ∧ Rep W ρ H (.ref n) x ∧ M[n]? = some (.dct kvs) ∧ inD.keyOk a = true ∧ dctGet kvs a = some d ∧ ∀ v, Rep W ρ H d v → Q v H
theorem ix_K (sm : Same X W) (hu : X.A.units + 65 < cLine) : IxR X (rIxK W) := by
  intro value slice pins s σ H x y v u Q I rx ry ⟨ρ, M, a, n, kvs, d, m, ra, rn, hn, hk, hg, q⟩ hs
  obtain ⟨c, xs, h1, h2, h3, h4, h5⟩ := m.dct hn
  obtain ⟨_, ds, rfl⟩ := ok8 hk
  obtain ⟨b, ys, rfl, t, r⟩ := ra
  have ey := rn.2 c h1
  subst ey
  cases rx
  cases ry
  obtain ⟨p, w, e1, e2, e3⟩ := at_get hk h5 hg
  have dd := dct_of sm I h2 h4 h5
  exact PyProof.Rows.subscriptTail_builtinR dd.typeIs PySem.F.slot_dict_getitem.lookup (wpAny_getItem_heap (k := keyN (.tup ds)) (show X.A.in1.units + 8 < cLine by show X.A.units + 1 + 8 < cLine; omega) (key_at sm.K I hk ⟨b, ys, rfl, t, r⟩) dd e1 ⟨rfl, w, H, I.tok _, e2, q w e3⟩) hs
def rSetK (W : Wd) : V → V → V → Hp → (Hp → Prop) → Prop := fun o i v H Q => ∃ ρ M a n kvs d, MemAt W ρ H M ∧ Rep W ρ H a i ∧ Rep W ρ H (.ref n) o ∧ Rep W ρ H d v ∧ M[n]? = some (.dct kvs) ∧ inD.keyOk a = true ∧ kvs.length < sizeLine ∧
  ∀ H', Ext ρ H ρ H' → MemAt W ρ H' (M.set n (.dct (dctPut kvs a d))) → Q H'
theorem set_K (sm : Same X W) (hu : X.A.units + 65 < cLine) : PSet X (rSetK W) := by
  intro pins s σ H o i v ov iv u Q I ro ri rv ⟨ρ, M, a, n, kvs, d, m, ra, rn, rd, hn, hk, hl, q⟩
  obtain ⟨c, xs, h1, h2, h3, h4, h5⟩ := m.dct hn
  obtain ⟨_, ds, rfl⟩ := ok8 hk
  obtain ⟨b, ys, rfl, t, r⟩ := ra
  have ey := rn.2 c h1
  subst ey
  cases ro
  cases ri
  have hz : xs.length ≤ sizeLine := by rw [← h5.len]; omega
  have dd := dct_of sm I h2 h4 h5
  refine wpAny_setItem_heap (hsz := hz) (k := keyN (.tup ds)) (show X.A.in1.units + 8 < cLine by show X.A.units + 1 + 8 < cLine; omega) (key_at sm.K I hk ⟨b, ys, rfl, t, r⟩) dd fun h' dd' hs => ?_
  have F : dFor W c (storedH xs (keyN (.tup ds)) b u) h' := by
    obtain ⟨o, es, ep, e1, e2, e3, e4, _⟩ := dd'
    exact ⟨o, es, ep, e1, e2, e3, by rw [← sm.P, ← sm.w]; exact e4⟩
  have he : ∃ q, h'.get? c = some q := let ⟨o, _, _, e, _⟩ := F; ⟨o, e⟩
  have own := List.mem_of_getElem? h1
  refine ⟨upd H c (.ext (dFor W c (storedH xs (keyN (.tup ds)) b u))), I.write (by rw [h2]; trivial) (.inl rfl) (fun b' u' hb q' => (hs.2 b' hb).trans q') he (dct_stays F), q _ (ext_put m own) (m.putO h1 ⟨_, upd_same, h3, stored_nodup h4, ?_⟩)⟩
  exact DAt.ext0 (ext_put m own).toEx0 (at_put hk ⟨b, ys, rfl, t, r⟩ rv rd h4 h5)
/-- {} -/
def tDict0 (W : Wd) : TE := fun _ H Q => ∀ p, H p = none → (p == sysModules) = false → Q (.ref p) (upd H p (.ext (dFor W p [])))
theorem pe_dict0 {pos : Pos} : PE X (.Dict [] [] pos) (tDict0 W) := by
  refine ⟨fun pins s σ H Q I h => wpAny_Dict_empty ⟨.ref s.heap.objs.size, _, I.laid (a := s.heap.objs.size) (o := .ext (dFor W s.heap.objs.size [])) (t' := s.toks) (fun _ _ q => Heap.get?_push_of_some _ q) (Nat.le_refl _) (dct_stays ?_), rfl, h _ (I.hok.fresh (Nat.le_refl _)) ?_⟩⟩
  · exact ⟨_, #[], 0, Heap.get?_push_size _ rfl, ⟨rfl, rfl, rfl⟩, rfl, rfl⟩
  · exact beq_eq_false_iff_ne.mpr (Ne.symm (Nat.ne_of_lt I.big))
theorem im_dict0 {pos : Pos} : Im X W E (.Dict [] [] pos) eDict0 :=
  PEimp pe_dict0 fun σ H Q ⟨ρ, δ, M, s, m, p⟩ c hc hs => by
    refine p ⟨ρ.o ++ [some c], ρ.h⟩ (.ref c) _ (ext_alloc m hc) (m.allocO hc (fun z => by cases z) ⟨[], upd_same, hs, List.nodup_nil, trivial⟩) ⟨by simp [m.len], fun b hb => ?_⟩
    have e : (ρ.o ++ [some c])[M.length]? = some (some c) := by rw [← m.len]; simp
    rw [e] at hb
    simpa using hb
end
end Ev
set_option Elab.async false
set_option linter.all false
set_option maxRecDepth 100000
set_option maxHeartbeats 2000000
/-! Es3: more operators, comparisons, tests. -/
namespace Ev
open PySem PySem.Spec PyProof.Rows L2
section
variable {X : L2.Cx} {W : Wd} {E : XK} {e : Expr}
def rMulAll : R2 := fun x y H Q => rI CMul (fun i j => .int (i * j)) x y H Q ∨ rRep x y H Q
theorem op_mulAll : OpR X (binaryOp .Mult) rMulAll := op_mul.or op_rep
theorem mulOk_c {i j : Int} (h : mulOk i j = true) : CMul i j := by
  unfold mulOk at h
  rcases Bool.or_eq_true_iff.mp h with h | h
  · exact .inl ⟨of_decide_eq_true (Bool.and_eq_true_iff.mp h).1, of_decide_eq_true (Bool.and_eq_true_iff.mp h).2⟩
  · exact .inr ⟨of_decide_eq_true (Bool.and_eq_true_iff.mp h).1, of_decide_eq_true (Bool.and_eq_true_iff.mp h).2⟩
theorem f_mul : Op2 W E mulD rMulAll := by
  intro ρ H a b M v w Q m ra rb p
  unfold mulD at p
  split at p
  · obtain ⟨h, p⟩ := guardR_ok p
    exact .inl ⟨_, _, ra, rb, mulOk_c h, Post.here p m rfl⟩
  · rename_i k _
    split at p
    · rename_i ds e1
      obtain ⟨h, p⟩ := guardR_ok p
      simp only [Bool.and_eq_true, decide_eq_true_eq] at h
      obtain ⟨a, xs, rfl, ta, qa⟩ := seqOf_at m ra e1
      have l1 := qa.length
      exact .inr ⟨a, k, xs, rfl, rb, ta, h.1.1, h.1.2, by rw [← l1]; exact h.2, fun c hc => new_frz m (qa.rep k.toNat) p hc⟩
    · exact False.elim p
  · exact False.elim p
theorem f_div : Op2 W E divD (rI CDivN fun i j => .int (i.fdiv j)) := by
  intro ρ H a b M v w Q m ra rb p
  unfold divD at p
  split at p
  · obtain ⟨h, p⟩ := guardR_ok p
    simp only [Bool.and_eq_true, decide_eq_true_eq] at h
    exact ⟨_, _, ra, rb, ⟨h.1, h.2⟩, Post.here p m rfl⟩
  · exact False.elim p
theorem f_mod : Op2 W E modD (rI (fun _ j => j ≠ 0) fun i j => .int (i.fmod j)) := by
  intro ρ H a b M v w Q m ra rb p
  unfold modD at p
  split at p
  · obtain ⟨h, p⟩ := guardR_ok p
    exact ⟨_, _, ra, rb, of_decide_eq_true h, Post.here p m rfl⟩
  · exact False.elim p
def CPowW (i j : Int) : Prop := 0 < j ∧ 2 ≤ i.natAbs ∧ Builtin.Int.intTooBig (((Builtin.Int.intBits i : Nat) : Int) * j) = false
theorem op_powW : OpR X (binaryOp .Pow) (rI CPowW fun i j => .int (i ^ j.toNat)) := opI fun i j t u s Q E hc q => by
  obtain ⟨h1, h2, h3⟩ := hc
  refine AutoIntOps.pow_4 (by omega) (by simp; omega) (by simp; omega) (by simp; omega) (by rw [h3]; decide) ?_
  exact q
theorem f_pow : Op2 W E powD (rI CPowW fun i j => .int (i ^ j.toNat)) := by
  intro ρ H a b M v w Q m ra rb p
  unfold powD at p
  split at p
  · obtain ⟨h, p⟩ := guardR_ok p
    simp only [Bool.and_eq_true, decide_eq_true_eq, Bool.not_eq_true'] at h
    exact ⟨_, _, ra, rb, ⟨h.1.1, h.1.2, h.2⟩, Post.here p m rfl⟩
  · exact False.elim p
theorem im_binop {op : Operator} {a b : Expr} {da db : Den} {pos : Pos} (hK : X.K = W.K) (ha : Im X W E a da) (hb : Im X W E b db) : Im X W E (.BinOp a op b pos) (eBin op da db) := by
  have bad : ∀ op, binD op = (fun _ _ _ => .bad) → Im X W E (.BinOp a op b pos) (eBin op da db) := fun op h => by
    refine ⟨fun pins s σ H Q I q => ?_⟩
    obtain ⟨ρ, δ, M, s', m, p⟩ := q
    have : ∀ r : Res D, Post W (Rep W) ρ H (r.bind fun x M => (db δ M).bind fun y M => binD op x y M) Q E → r = .bad ∨ (∃ c fs M, r = .err c fs M) ∨ ∃ a M, r = .ok a M := fun r _ => by cases r <;> simp
    exact (pe_op (r := fun _ _ _ _ => False) (fun _ _ _ _ _ _ _ _ _ _ _ _ z => z.elim) ha hb).run pins s σ H Q I (seq2 ⟨ρ, δ, M, s', m, p⟩ fun ρ H a b M v w m ra rb p => by rw [h] at p; exact False.elim p)
  cases op with
  | Add => exact im_bin op_addAll (hK ▸ f_add) ha hb
  | Sub => exact im_bin op_sub f_sub ha hb
  | Mult => exact im_bin op_mulAll f_mul ha hb
  | FloorDiv => exact im_bin op_fdivN f_div ha hb
  | Mod => exact im_bin op_modN f_mod ha hb
  | Pow => exact im_bin op_powW f_pow ha hb
  | _ => exact bad _ rfl
theorem im_neg {a : Expr} {da : Den} {pos : Pos} (ha : Im X W E a da) : Im X W E (.UnaryOp .USub a pos) (eNeg da) :=
  PEimp (pe_un un_neg ha) fun σ H Q h => seq1 h fun ρ H a M v m ra p => by
    split at p
    · exact ⟨_, ra, Post.here p m rfl⟩
    · exact False.elim p

/-! ### data -/
theorem mapO_dp {ρ : Rho} {H : Hp} {f : D → Option PyData} (hf : ∀ d v p, Rep W ρ H d v → f d = some p → Dp W.K H v p) : ∀ ds vs ps, RepL W ρ H ds vs → mapO f ds = some ps → DpAll W.K H vs ps
  | [], vs, ps, r, e => by cases r; cases e; exact .nil
  | d :: ds, _, ps, ⟨v, vs, rfl, h, r⟩, e => by
    unfold mapO at e
    split at e
    · rename_i p q h1 h2
      cases e
      exact .cons (hf _ _ _ h h1) (mapO_dp hf ds vs q r h2)
    · cases e
theorem toP_dp {ρ : Rho} {H : Hp} {M : Mem} (m : MemAt W ρ H M) : ∀ n d v p, Rep W ρ H d v → toP M n d = some p → Dp W.K H v p
  | 0, _, _, _, _, e => by cases e
  | n + 1, d, v, p, r, e => by
    have ih := mapO_dp (toP_dp m n)
    cases d with
    | non => cases r; cases e; exact .non
    | bl b => cases r; cases e; exact .bl b
    | int i => cases r; cases e; exact .int i
    | str x => cases r; cases e; exact .str x
    | tup ds =>
      obtain ⟨a, xs, rfl, t, q⟩ := r
      obtain ⟨ps, h, rfl⟩ := Option.map_eq_some_iff.mp (show (mapO (toP M n) ds).map PyData.tuple = some p from e)
      exact .tup t.sq (ih _ _ _ q h)
    | lst ds =>
      obtain ⟨a, xs, rfl, t, q⟩ := r
      obtain ⟨ps, h, rfl⟩ := Option.map_eq_some_iff.mp (show (mapO (toP M n) ds).map PyData.list = some p from e)
      exact .lst (.of t.1) (ih _ _ _ q h)
    | frz ds =>
      obtain ⟨a, xs, rfl, t, q⟩ := r
      obtain ⟨ps, h, rfl⟩ := Option.map_eq_some_iff.mp (show (mapO (toP M n) ds).map PyData.list = some p from e)
      exact .lst t.sq (ih _ _ _ q h)
    | ref k =>
      have e' : (match lstAt M k with | some xs => (mapO (toP M n) xs).map PyData.list | none => none) = some p := e
      split at e'
      · rename_i ds hd
        obtain ⟨a, xs, rfl, t, q⟩ := seqOf_at (d := .ref k) m r hd
        obtain ⟨ps, h, rfl⟩ := Option.map_eq_some_iff.mp e'
        exact .lst (.of t) (ih _ _ _ q h)
      · cases e'
    | fn x => cases e
    | ty x => cases e
theorem flat_rep {ρ : Rho} {H : Hp} {d : D} {v : V} (r : Rep W ρ H d v) (f : flatD d = true) : flatV v = true := by
  cases d with
  | non => cases r; rfl
  | bl b => cases r; rfl
  | int i => cases r; rfl
  | str x => cases r; rfl
  | _ => cases f
theorem eqF_rep {ρ : Rho} {H : Hp} {d e : D} {v w : V} (r : Rep W ρ H d v) (q : Rep W ρ H e w) (f : flatD d = true) (g : flatD e = true) : eqF d e = eqV v w := by
  cases d with
  | non => cases r; cases e with
    | non => cases q; rfl
    | bl _ => cases q; rfl
    | int _ => cases q; rfl
    | str _ => cases q; rfl
    | _ => cases g
  | bl b => cases r; cases e with
    | non => cases q; rfl
    | bl _ => cases q; rfl
    | int _ => cases q; rfl
    | str _ => cases q; rfl
    | _ => cases g
  | int i => cases r; cases e with
    | non => cases q; rfl
    | bl _ => cases q; rfl
    | int _ => cases q; rfl
    | str _ => cases q; rfl
    | _ => cases g
  | str x => cases r; cases e with
    | non => cases q; rfl
    | bl _ => cases q; rfl
    | int _ => cases q; rfl
    | str _ => cases q; rfl
    | _ => cases g
  | _ => cases f
theorem flats_rep {ρ : Rho} {H : Hp} : ∀ {ds : List D} {vs : List V}, RepL W ρ H ds vs → ds.all flatD = true → vs.all flatV = true
  | [], _, h, _ => by cases h; rfl
  | d :: ds, _, ⟨v, vs, rfl, h, r⟩, f => by
    simp only [List.all_cons, Bool.and_eq_true] at f ⊢
    exact ⟨flat_rep h f.1, flats_rep r f.2⟩
theorem inF_rep {ρ : Rho} {H : Hp} {d : D} {v : V} (q : Rep W ρ H d v) (f : flatD d = true) : ∀ {ds : List D} {vs : List V}, RepL W ρ H ds vs → ds.all flatD = true → inF d ds = inV v vs
  | [], _, h, _ => by cases h; rfl
  | e :: ds, _, ⟨w, vs, rfl, h, r⟩, g => by
    simp only [List.all_cons, Bool.and_eq_true] at g
    have := inF_rep q f r g.2
    unfold inF inV at this ⊢
    rw [List.any_cons, List.any_cons, this, eqF_rep h q g.1 f]
theorem ints_rep {ρ : Rho} {H : Hp} : ∀ {ds : List D} {vs : List V} {is : List Int}, RepL W ρ H ds vs → intsOf ds = some is → vs = is.map V.int
  | [], _, _, h, e => by cases h; cases e; rfl
  | d :: ds, _, is, ⟨v, vs, rfl, h, r⟩, e => by
    cases d with
    | int i =>
      obtain ⟨js, h1, rfl⟩ := Option.map_eq_some_iff.mp (show (intsOf ds).map (i :: ·) = some is from e)
      cases h
      rw [ints_rep r h1]
      rfl
    | _ => cases e

/-! ### comparisons -/
def rLtAll (K : PySem.W.Frag) : R2 := fun x y H Q => (∃ i j, x = .int i ∧ y = .int j ∧ Q (.bl (decide (i < j))) H) ∨ ((∃ i j, x = .str i ∧ y = .str j ∧ Q (.bl (decide (i.cps.toList < j.cps.toList))) H) ∨ rLtT K x y H Q)
def rLeAll : R2 := fun x y H Q => (∃ i j, x = .int i ∧ y = .int j ∧ Q (.bl (decide (i ≤ j))) H) ∨ ∃ i j, x = .str i ∧ y = .str j ∧ Q (.bl (!decide (j.cps.toList < i.cps.toList))) H
def rGtAll : R2 := fun x y H Q => (∃ i j, x = .int i ∧ y = .int j ∧ Q (.bl (decide (j < i))) H) ∨ ∃ i j, x = .str i ∧ y = .str j ∧ Q (.bl (decide (j.cps.toList < i.cps.toList))) H
def rGeAll : R2 := fun x y H Q => (∃ i j, x = .int i ∧ y = .int j ∧ Q (.bl (decide (j ≤ i))) H) ∨ ∃ i j, x = .str i ∧ y = .str j ∧ Q (.bl (!decide (i.cps.toList < j.cps.toList))) H
def rInAll (K : PySem.W.Frag) : R2 := fun x y H Q => (∃ i j, x = .str i ∧ y = .str j ∧ Q (.bl (!(Builtin.Str.occurrences j i 0 j.length 1).isEmpty)) H) ∨ (rIn K false x y H Q ∨ rInD K x y H Q)
def rNotInAll (K : PySem.W.Frag) : R2 := fun x y H Q => (∃ i j, x = .str i ∧ y = .str j ∧ Q (.bl (!(!(Builtin.Str.occurrences j i 0 j.length 1).isEmpty))) H) ∨ (rIn K true x y H Q ∨ rNotInD K x y H Q)
def cmR (W : Wd) : CmpOp → R2
  | .Eq => rEqD W.K
  | .NotEq => rNeD W.K
  | .Lt => rLtAll W.K
  | .LtE => rLeAll
  | .Gt => rGtAll
  | .GtE => rGeAll
  | .In => fun x y H Q => rInAll W.K x y H Q ∨ rInK W false x y H Q
  | .NotIn => fun x y H Q => rNotInAll W.K x y H Q ∨ rInK W true x y H Q
  | .Is => fun x y H Q => y = .non ∧ Q (.bl (decide (x = .non))) H
  | .IsNot => fun x y H Q => y = .non ∧ Q (.bl (!decide (x = .non))) H
theorem op_cm (sm : Same X W) (hu : X.A.units + 65 < cLine) : ∀ op : CmpOp, OpR X (compareOp op) (cmR W op)
  | .Eq => by show OpR X _ (rEqD W.K); rw [← sm.K]; exact op_eqD (by omega)
  | .NotEq => by show OpR X _ (rNeD W.K); rw [← sm.K]; exact op_neD (by omega)
  | .Lt => by show OpR X _ (rLtAll W.K); rw [← sm.K]; exact op_lt.or (op_lt_str.or (op_ltT (by omega)))
  | .LtE => op_le.or op_le_str
  | .Gt => op_gt.or op_gt_str
  | .GtE => op_ge.or op_ge_str
  | .In => by
    have h : OpR X (compareOp .In) (rInAll W.K) := by rw [← sm.K]; exact op_in_str.or (op_in_seq.or (op_inD hu))
    exact h.or (op_inK sm hu)
  | .NotIn => by
    have h : OpR X (compareOp .NotIn) (rNotInAll W.K) := by rw [← sm.K]; exact op_notin_str.or (op_notIn_seq.or (op_notInD hu))
    exact h.or (op_notInK sm hu)
  | .Is => op_isN
  | .IsNot => op_notN
theorem eqD_at {ρ : Rho} {H : Hp} {M : Mem} {a b : D} {v w : V} {k : Bool} (m : MemAt W ρ H M) (ra : Rep W ρ H a v) (rb : Rep W ρ H b w) (e : eqD a b M = some k) :
    ∃ p q, Dp W.K H v p ∧ Dp W.K H w q ∧ SeqAt.shaped p = true ∧ SeqAt.shaped q = true ∧ PyData.eqv p q = k := by
  unfold eqD at e
  split at e
  · rename_i p q h1 h2
    split at e
    · rename_i hs
      obtain ⟨s1, s2⟩ := Bool.and_eq_true_iff.mp hs
      exact ⟨p, q, toP_dp m 70 _ _ _ ra h1, toP_dp m 70 _ _ _ rb h2, s1, s2, Option.some.inj e⟩
    · cases e
  · cases e
theorem inD_inL {ρ : Rho} {H : Hp} {M : Mem} {x : D} {ys : List D} {v : V} {a : Addr} {xs : List V} {k : Bool} (m : MemAt W ρ H M) (rx : Rep W ρ H x v) (t : H a = some (.lst xs)) (r : RepL W ρ H ys xs) (e : inD.inL x ys M = some k) :
    (flatV v = true ∧ xs.all flatV = true ∧ inV v xs = k) ∨ ∃ p qs, Dp W.K H v p ∧ Dp W.K H (.ref a) (.list qs) ∧ SeqAt.shaped p = true ∧ SeqAt.shaped (.list qs) = true ∧ (qs.any fun z => PyData.eqv z p) = k := by
  unfold inD.inL at e
  split at e
  · rename_i hf
    obtain ⟨f1, f2⟩ := Bool.and_eq_true_iff.mp hf
    exact .inl ⟨flat_rep rx f1, flats_rep r f2, by rw [← inF_rep rx f1 r f2]; exact Option.some.inj e⟩
  · split at e
    · rename_i p qs h1 h2
      split at e
      · rename_i hs
        obtain ⟨s1, s2⟩ := Bool.and_eq_true_iff.mp hs
        have h2' : (mapO (toP M 69) ys).map PyData.list = some (.list qs) := h2
        obtain ⟨ps, h3, h4⟩ := Option.map_eq_some_iff.mp h2'
        have h5 : ps = qs := by injection h4
        subst h5
        exact .inr ⟨p, ps, toP_dp m 70 _ _ _ rx h1, .lst (.of t) (mapO_dp (toP_dp m 69) _ _ _ r h3), s1, s2, Option.some.inj e⟩
      · cases e
    · cases e
theorem inD_at {ρ : Rho} {H : Hp} {M : Mem} {a b : D} {v w : V} {k : Bool} (m : MemAt W ρ H M) (ra : Rep W ρ H a v) (rb : Rep W ρ H b w) (e : inD a b M = some k) :
    (∃ i j, v = .str i ∧ w = .str j ∧ (!(Builtin.Str.occurrences j i 0 j.length 1).isEmpty) = k) ∨
    (∃ p xs, w = .ref p ∧ (SqL W.K H p xs ∨ SqT W.K H p xs) ∧ flatV v = true ∧ xs.all flatV = true ∧ inV v xs = k) ∨
    (∃ d ds, Dp W.K H v d ∧ Dp W.K H w (.list ds) ∧ SeqAt.shaped d = true ∧ SeqAt.shaped (.list ds) = true ∧ (ds.any fun z => PyData.eqv z d) = k) ∨
    ∃ n kvs, b = .ref n ∧ M[n]? = some (.dct kvs) ∧ inD.keyOk a = true ∧ (kvs.any fun kv => D.same kv.1 a) = k := by
  have lst : ∀ ys, seqOf M b = some ys → inD.inL a ys M = some k → (∃ p xs, w = .ref p ∧ (SqL W.K H p xs ∨ SqT W.K H p xs) ∧ flatV v = true ∧ xs.all flatV = true ∧ inV v xs = k) ∨
      ∃ d ds, Dp W.K H v d ∧ Dp W.K H w (.list ds) ∧ SeqAt.shaped d = true ∧ SeqAt.shaped (.list ds) = true ∧ (ds.any fun z => PyData.eqv z d) = k := fun ys h1 h2 => by
    obtain ⟨p, xs, rfl, t, r⟩ := seqOf_at m rb h1
    rcases inD_inL m ra t r h2 with ⟨f1, f2, f3⟩ | ⟨d, ds, q⟩
    · exact .inl ⟨p, xs, rfl, .inl (.of t), f1, f2, f3⟩
    · exact .inr ⟨d, ds, q⟩
  cases b with
  | str j =>
    cases rb
    cases a with
    | str i => cases ra; exact .inl ⟨i, j, rfl, rfl, Option.some.inj e⟩
    | _ => cases e
  | tup ys =>
    obtain ⟨p, xs, rfl, t, r⟩ := rb
    have e' : (if flatD a && ys.all flatD then some (inF a ys) else none) = some k := e
    split at e'
    · rename_i hf
      obtain ⟨f1, f2⟩ := Bool.and_eq_true_iff.mp hf
      exact .inr (.inl ⟨p, xs, rfl, .inr t.sq, flat_rep ra f1, flats_rep r f2, by rw [← inF_rep ra f1 r f2]; exact Option.some.inj e'⟩)
    · cases e'
  | lst ys => exact .inr ((lst ys rfl e).imp id .inl)
  | ref n =>
    have e' : (match lstAt M n with
      | some ys => inD.inL a ys M
      | none => (match M[n]? with
        | some (.dct kvs) => if inD.keyOk a then some (kvs.any fun kv => D.same kv.1 a) else none
        | _ => none)) = some k := e
    split at e'
    · rename_i ys h
      exact .inr ((lst ys h e').imp id .inl)
    · split at e'
      · rename_i kvs h
        split at e'
        · rename_i hk
          exact .inr (.inr (.inr ⟨n, kvs, rfl, h, hk, Option.some.inj e'⟩))
        · cases e'
      · cases e'
  | _ => cases e
theorem isNon_rep {ρ : Rho} {H : Hp} {M : Mem} {d : D} {v : V} {k : Bool} (m : MemAt W ρ H M) (r : Rep W ρ H d v) (e : isNonM M d = some k) : decide (v = .non) = k := by
  cases d with
  | non => cases r; cases e; rfl
  | bl b => cases r; cases e; rfl
  | int i => cases r; cases e; rfl
  | str x => cases r; cases e; rfl
  | tup ds => obtain ⟨a, xs, rfl, _⟩ := r; cases e; rfl
  | lst ds => obtain ⟨a, xs, rfl, _⟩ := r; cases e; rfl
  | frz ds => obtain ⟨a, xs, rfl, _⟩ := r; cases e; rfl
  | ref n =>
    have e' : (match M[n]? with | some .dead => none | none => none | some _ => some false) = some k := e
    have fin : (∃ a, ρ.o[n]? = some (some a)) → k = false → decide (v = .non) = k := fun ⟨a, ha⟩ hk => by
      rw [r.2 a ha, hk]; rfl
    split at e'
    · cases e'
    · cases e'
    · rename_i o h1 h2
      have q := m.live n _ h2
      cases o with
      | dead => exact absurd rfl (h1 · )
      | lst xs => exact fin q (Option.some.inj e').symm
      | dct xs => exact fin q (Option.some.inj e').symm
  | fn x => obtain ⟨a, _, rfl⟩ := r; cases e; rfl
  | ty n => cases r; cases e; rfl
/-- a comparison's answer -/
theorem cm_at (op : CmpOp) {ρ : Rho} {H : Hp} {M : Mem} {a b : D} {v w : V} {k : Bool} {Q : VK} (m : MemAt W ρ H M) (ra : Rep W ρ H a v) (rb : Rep W ρ H b w) (e : cmpD op a b M = some k) (q : Q (.bl k) H) : cmR W op v w H Q := by
  cases op with
  | Eq =>
    obtain ⟨p, p', h1, h2, h3, h4, h5⟩ := eqD_at m ra rb e
    exact ⟨p, p', h1, h2, h3, h4, by rw [h5]; exact q⟩
  | NotEq =>
    obtain ⟨c, e1, e2⟩ := Option.map_eq_some_iff.mp (show (eqD a b M).map (!·) = some k from e)
    obtain ⟨p, p', h1, h2, h3, h4, h5⟩ := eqD_at m ra rb e1
    exact ⟨p, p', h1, h2, h3, h4, by rw [h5, e2]; exact q⟩
  | Lt =>
    have e' : ltD a b = some k := e
    unfold ltD at e'
    split at e'
    · cases e'; exact .inl ⟨_, _, ra, rb, q⟩
    · cases e'; exact .inr (.inl ⟨_, _, ra, rb, q⟩)
    · split at e'
      · rename_i i j h1 h2
        cases e'
        obtain ⟨c, xs, rfl, t, r⟩ := ra
        obtain ⟨d, ys, rfl, t2, r2⟩ := rb
        rw [ints_rep r h1] at t
        rw [ints_rep r2 h2] at t2
        exact .inr (.inr ⟨c, d, i, j, rfl, rfl, t.sq, t2.sq, q⟩)
      · cases e'
    · cases e'
  | LtE =>
    have e' : leD a b = some k := e
    unfold leD at e'
    split at e'
    · cases e'; exact .inl ⟨_, _, ra, rb, q⟩
    · cases e'; exact .inr ⟨_, _, ra, rb, q⟩
    · cases e'
  | Gt =>
    have e' : gtD a b = some k := e
    unfold gtD at e'
    split at e'
    · cases e'; exact .inl ⟨_, _, ra, rb, q⟩
    · cases e'; exact .inr ⟨_, _, ra, rb, q⟩
    · cases e'
  | GtE =>
    have e' : geD a b = some k := e
    unfold geD at e'
    split at e'
    · cases e'; exact .inl ⟨_, _, ra, rb, q⟩
    · cases e'; exact .inr ⟨_, _, ra, rb, q⟩
    · cases e'
  | In =>
    rcases inD_at m ra rb e with ⟨i, j, h1, h2, h3⟩ | ⟨p, xs, h1, h2, h3, h4, h5⟩ | ⟨d, ds, h1, h2, h3, h4, h5⟩ | ⟨n, kvs, rfl, h1, h2, h3⟩
    · exact .inl (.inl ⟨i, j, h1, h2, by rw [h3]; exact q⟩)
    · exact .inl (.inr (.inl ⟨p, xs, h1, h2, h3, h4, by rw [if_neg (by decide), h5]; exact q⟩))
    · exact .inl (.inr (.inr ⟨d, ds, h1, h2, h3, h4, by rw [h5]; exact q⟩))
    · exact .inr ⟨ρ, M, a, n, kvs, m, ra, rb, h1, h2, by rw [h3]; simpa using q⟩
  | NotIn =>
    obtain ⟨c, e1, e2⟩ := Option.map_eq_some_iff.mp (show (inD a b M).map (!·) = some k from e)
    rcases inD_at m ra rb e1 with ⟨i, j, h1, h2, h3⟩ | ⟨p, xs, h1, h2, h3, h4, h5⟩ | ⟨d, ds, h1, h2, h3, h4, h5⟩ | ⟨n, kvs, rfl, h1, h2, h3⟩
    · exact .inl (.inl ⟨i, j, h1, h2, by rw [h3, e2]; exact q⟩)
    · exact .inl (.inr (.inl ⟨p, xs, h1, h2, h3, h4, by rw [if_pos rfl, h5, e2]; exact q⟩))
    · exact .inl (.inr (.inr ⟨d, ds, h1, h2, h3, h4, by rw [h5, e2]; exact q⟩))
    · exact .inr ⟨ρ, M, a, n, kvs, m, ra, rb, h1, h2, by rw [h3]; simpa [e2] using q⟩
  | Is =>
    have e' : (if isNon b then isNonM M a else none) = some k := e
    split at e'
    · rename_i hb
      cases b with
      | non => cases rb; exact ⟨rfl, by rw [isNon_rep m ra e']; exact q⟩
      | _ => cases hb
    · cases e'
  | IsNot =>
    have e' : (if isNon b then (isNonM M a).map (!·) else none) = some k := e
    split at e'
    · rename_i hb
      obtain ⟨c, e1, e2⟩ := Option.map_eq_some_iff.mp e'
      cases b with
      | non => cases rb; exact ⟨rfl, by rw [isNon_rep m ra e1, e2]; exact q⟩
      | _ => cases hb
    · cases e'
theorem nomarkS {b : Expr} (h : notSet b = true) (op : CmpOp) : behindInMarks op b = false := by
  cases b <;> first | rfl | cases h
theorem optR_ok {o : Option Bool} {M : Mem} {ρ : Rho} {H : Hp} {Q : VK} (p : Post W (Rep W) ρ H (optR o M) Q E) : ∃ k, o = some k ∧ Post W (Rep W) ρ H (.ok (.bl k) M) Q E := by
  cases o with
  | none => exact False.elim p
  | some k => exact ⟨k, rfl, p⟩
theorem im_cmp {op : CmpOp} {a b : Expr} {da db : Den} {pos : Pos} (sm : Same X W) (hu : X.A.units + 65 < cLine) (hb' : notSet b = true) (ha : Im X W E a da) (hb : Im X W E b db) : Im X W E (.Compare a [op] [b] pos) (eCmp op da db) :=
  PEimp (pe_cmpR (op_cm sm hu op) ha hb (nomarkS hb' op)) fun σ H Q h => seq2 h fun ρ H a b M v w m ra rb p => by
    obtain ⟨k, e, p⟩ := optR_ok p
    exact cm_at op m ra rb e (Post.here p m rfl)
end
end Ev
set_option Elab.async false
set_option linter.all false
set_option maxRecDepth 100000
set_option maxHeartbeats 2000000
/-! Es4: tests, and, or, not, chains; arguments, displays, items, slices. -/
namespace Ev
open PySem PySem.Spec PyProof.Rows L2
section
variable {X : L2.Cx} {W : Wd} {E : XK} {e : Expr}
theorem optB_ok {o : Option Bool} {M : Mem} {ρ : Rho} {H : Hp} {Q : Bool → Hp → Prop} (p : Post W rEq ρ H (optB o M) Q E) : ∃ k, o = some k ∧ Post W rEq ρ H (.ok k M) Q E := by
  cases o with
  | none => exact False.elim p
  | some k => exact ⟨k, rfl, p⟩
theorem truth_at {ρ : Rho} {H : Hp} {M : Mem} {d : D} {v : V} {k : Bool} (m : MemAt W ρ H M) (r : Rep W ρ H d v) (e : truthD M d = some k) : TruV W.K v H k := by
  have lst : ∀ a xs ds, SqL W.K H a xs → RepL W ρ H ds xs → k = !ds.isEmpty → TruV W.K (.ref a) H k := fun a xs ds t q hk => by
    refine .inl ⟨xs, t, ?_⟩
    rw [hk]
    have := q.length
    cases ds <;> cases xs <;> simp_all
  cases d with
  | non => cases r; cases e; rfl
  | bl b => cases r; cases e; rfl
  | int i => cases r; cases e; rfl
  | str x =>
    cases r
    have e' : (if x.length ≤ sizeLine then some (decide (x.length ≠ 0)) else none) = some k := e
    split at e'
    · rename_i h
      cases e'
      refine ⟨h, ?_⟩
      rw [Bool.eq_iff_iff]
      simp
    · cases e'
  | tup ds =>
    obtain ⟨a, xs, rfl, t, q⟩ := r
    cases e
    refine .inr (.inl ⟨xs, t.sq, ?_⟩)
    have := q.length
    cases ds <;> cases xs <;> simp_all
  | lst ds =>
    obtain ⟨a, xs, rfl, t, q⟩ := r
    cases e
    exact lst a xs ds (.of t.1) q rfl
  | frz ds =>
    obtain ⟨a, xs, rfl, t, q⟩ := r
    cases e
    exact lst a xs ds t.sq q rfl
  | ref n =>
    have e' : (match M[n]? with | some (.lst xs) => some !xs.isEmpty | _ => none) = some k := e
    split at e'
    · rename_i ds h
      obtain ⟨a, xs, rfl, t, q⟩ := seqOf_at (d := .ref n) m r (lstAt_of h)
      cases e'
      exact lst a xs ds (.of t) q rfl
    · cases e'
  | _ => cases e
theorem seqT {da : Den} {f : D → Mem → Res Bool} {σ : L2.St} {H : Hp} {Q : Bool → Hp → Prop} {r : V → Hp → Prop}
    (h : tT W E (fun δ M => (da δ M).bind fun x M => f x M) σ H Q)
    (k : ∀ ρ H a M v, MemAt W ρ H M → Rep W ρ H a v → Post W rEq ρ H (f a M) Q E → r v H) :
    tI W E da σ H fun x H1 => r x H1 := by
  obtain ⟨ρ, δ, M, s, m, p⟩ := h
  exact ⟨ρ, δ, M, s, m, (Post.bind p).mono fun x H1 ⟨ρ1, a, M1, x1, m1, r1, p1⟩ => k ρ1 H1 a M1 x m1 r1 p1⟩
/-- behind a test -/
theorem seqB {da : DenB} {α β : Type} {rel : Rho → Hp → α → β → Prop} {f : Bool → Slots → Mem → Res α} {σ : L2.St} {H : Hp} {Q : β → Hp → Prop} {r : Bool → Hp → Prop}
    (h : ∃ ρ δ M, SRep W ρ H δ σ ∧ MemAt W ρ H M ∧ Post W rel ρ H ((da δ M).bind fun x M => f x δ M) Q E)
    (k : ∀ ρ δ H b M, SRep W ρ H δ σ → MemAt W ρ H M → Post W rel ρ H (f b δ M) Q E → r b H) :
    tT W E da σ H fun x H1 => r x H1 := by
  obtain ⟨ρ, δ, M, s, m, p⟩ := h
  refine ⟨ρ, δ, M, s, m, (Post.bind p).mono fun x H1 ⟨ρ1, a, M1, x1, m1, r1, p1⟩ => ?_⟩
  have e : a = x := r1
  subst e
  exact k ρ1 δ H1 a M1 (s.ext x1) m1 p1
theorem imT_truth (hK : X.K = W.K) {a : Expr} {da : Den} (ha : Im X W E a da) (he : ∀ whole, isTrue a X.env whole = (do let v ← whole; standAt a.pos; holding [v] (truthy v))) : ImT X W E a (tD da) :=
  PTimp (pt_truth ha he) fun σ H Q h => seqT h fun ρ H a M v m ra p => by
    obtain ⟨k, e, p⟩ := optB_ok p
    exact ⟨k, by rw [hK]; exact truth_at m ra e, Post.here p m rfl⟩
theorem imT_not {a : Expr} {t : DenB} {pos : Pos} (ha : ImT X W E a t) : ImT X W E (.UnaryOp .Not a pos) (tNot t) :=
  PTimp (pt_not ha) fun σ H Q h => seqB h fun ρ δ H b M s m p => Post.here p m rfl
theorem im_not (hK : X.K = W.K) {a : Expr} {da : Den} {pos : Pos} (ha : Im X W E a da) : Im X W E (.UnaryOp .Not a pos) (eNot da) :=
  PEimp (pe_notT ha) fun σ H Q h => seq1 h fun ρ H a M v m ra p => by
    obtain ⟨k, e, p⟩ := optR_ok p
    obtain ⟨c, e1, e2⟩ := Option.map_eq_some_iff.mp e
    exact ⟨c, by rw [hK]; exact truth_at m ra e1, by rw [e2]; exact Post.here p m rfl⟩
theorem imT_cmp {op : CmpOp} {a b : Expr} {da db : Den} {pos : Pos} (sm : Same X W) (hu : X.A.units + 65 < cLine) (hb' : notSet b = true) (ha : Im X W E a da) (hb : Im X W E b db) : ImT X W E (.Compare a [op] [b] pos) (tCmp op da db) :=
  PTimp (pt_cmpR (op_cm sm hu op) ha hb (nomarkS hb' op)) fun σ H Q h => by
    obtain ⟨ρ, δ, M, s, m, p⟩ := h
    refine ⟨ρ, δ, M, s, m, (Post.bind p).mono fun x H1 ⟨ρ1, a, M1, x1, m1, r1, p1⟩ => ⟨ρ1, δ, M1, s.ext x1, m1, (Post.bind p1).mono fun y H2 ⟨ρ2, b, M2, x2, m2, r2, p2⟩ => ?_⟩⟩
    obtain ⟨k, e, p⟩ := optB_ok p2
    exact cm_at op m2 (Rep.ext x2 _ _ r1) r2 e ⟨k, rfl, Post.here p m2 rfl⟩
theorem lastMarks2 {b c : Expr} (h : notSet c = true) (op op' : CmpOp) : lastMarks [op, op'] [b, c] = false := nomarkS h op'
theorem im_cmp2 {op op' : CmpOp} {a b c : Expr} {da db dc : Den} {pos : Pos} (sm : Same X W) (hu : X.A.units + 65 < cLine) (hc' : notSet c = true) (ha : Im X W E a da) (hb : Im X W E b db) (hc : Im X W E c dc) :
    Im X W E (.Compare a [op, op'] [b, c] pos) (eCmp2 op op' da db dc) :=
  PEimp (pe_chain (op_cm sm hu op) (op_cm sm hu op') ha hb hc (lastMarks2 hc' op op')) fun σ H Q h => by
    obtain ⟨ρ, δ, M, s, m, p⟩ := h
    refine ⟨ρ, δ, M, s, m, (Post.bind p).mono fun x H1 ⟨ρ1, a, M1, x1, m1, r1, p1⟩ => ⟨ρ1, δ, M1, s.ext x1, m1, (Post.bind p1).mono fun y H2 ⟨ρ2, b, M2, x2, m2, r2, p2⟩ => ?_⟩⟩
    split at p2
    · rename_i e
      refine cm_at op m2 (Rep.ext x2 _ _ r1) r2 e ⟨true, rfl, ?_⟩
      rw [if_pos rfl]
      refine ⟨ρ2, δ, M2, s.ext (x1.trans x2), m2, (Post.bind p2).mono fun z H3 ⟨ρ3, c, M3, x3, m3, r3, p3⟩ => ?_⟩
      obtain ⟨k, e, p⟩ := optR_ok p3
      exact cm_at op' m3 (Rep.ext x3 _ _ r2) r3 e (Post.here p m3 rfl)
    · rename_i e
      refine cm_at op m2 (Rep.ext x2 _ _ r1) r2 e ⟨false, rfl, ?_⟩
      rw [if_neg (by decide)]
      exact Post.here p2 m2 rfl
    · exact False.elim p2
theorem imT_cmp2 {op op' : CmpOp} {a b c : Expr} {da db dc : Den} {pos : Pos} (sm : Same X W) (hu : X.A.units + 65 < cLine) (hc' : notSet c = true) (ha : Im X W E a da) (hb : Im X W E b db) (hc : Im X W E c dc) :
    ImT X W E (.Compare a [op, op'] [b, c] pos) (tCmp2 op op' da db dc) :=
  PTimp (pt_chain (op_cm sm hu op) (op_cm sm hu op') ha hb hc (lastMarks2 hc' op op')) fun σ H Q h => by
    obtain ⟨ρ, δ, M, s, m, p⟩ := h
    refine ⟨ρ, δ, M, s, m, (Post.bind p).mono fun x H1 ⟨ρ1, a, M1, x1, m1, r1, p1⟩ => ⟨ρ1, δ, M1, s.ext x1, m1, (Post.bind p1).mono fun y H2 ⟨ρ2, b, M2, x2, m2, r2, p2⟩ => ?_⟩⟩
    split at p2
    · rename_i e
      refine cm_at op m2 (Rep.ext x2 _ _ r1) r2 e ⟨true, rfl, ?_⟩
      rw [if_pos rfl]
      refine ⟨ρ2, δ, M2, s.ext (x1.trans x2), m2, (Post.bind p2).mono fun z H3 ⟨ρ3, c, M3, x3, m3, r3, p3⟩ => ?_⟩
      obtain ⟨k, e, p⟩ := optB_ok p3
      exact cm_at op' m3 (Rep.ext x3 _ _ r2) r3 e ⟨k, rfl, Post.here p m3 rfl⟩
    · rename_i e
      refine cm_at op m2 (Rep.ext x2 _ _ r1) r2 e ⟨false, rfl, ?_⟩
      rw [if_neg (by decide)]
      exact ⟨false, rfl, Post.here p2 m2 rfl⟩
    · exact False.elim p2
/-! ### and, or -/
theorem im_one {op : BoolOp} {a : Expr} {da : Den} {pos : Pos} (ha : Im X W E a da) : Im X W E (.BoolOp op [a] pos) da := pe_one ha
theorem im_bool (hK : X.K = W.K) {op : BoolOp} {pos : Pos} (f : Expr → Den) : ∀ es : List Expr, (∀ e ∈ es, Im X W E e (f e)) → Im X W E (.BoolOp op es pos) (eBool op (es.map f))
  | [], _ => im_bad
  | [a], h => pe_one (h a (by simp))
  | a :: b :: r, h => by
    have h1 : Im X W E a (f a) := h a (by simp)
    have h2 := im_bool hK (op := op) (pos := pos) f (b :: r) fun e he => h e (List.mem_cons_of_mem _ he)
    cases op with
    | And =>
      refine PEimp (pe_andT h1 h2) fun σ H Q hh => ?_
      obtain ⟨ρ, δ, M, s, m, p⟩ := hh
      refine ⟨ρ, δ, M, s, m, (Post.bind p).mono fun x H1 ⟨ρ1, a, M1, x1, m1, r1, p1⟩ => ?_⟩
      rw [hK]
      split at p1
      · rename_i e
        exact ⟨true, truth_at m1 r1 e, by rw [if_pos rfl]; exact ⟨ρ1, δ, M1, s.ext x1, m1, p1⟩⟩
      · rename_i e
        exact ⟨false, truth_at m1 r1 e, by rw [if_neg (by decide)]; exact Post.here p1 m1 r1⟩
      · exact False.elim p1
    | Or =>
      refine PEimp (pe_orT h1 h2) fun σ H Q hh => ?_
      obtain ⟨ρ, δ, M, s, m, p⟩ := hh
      refine ⟨ρ, δ, M, s, m, (Post.bind p).mono fun x H1 ⟨ρ1, a, M1, x1, m1, r1, p1⟩ => ?_⟩
      rw [hK]
      split at p1
      · rename_i e
        exact ⟨true, truth_at m1 r1 e, by rw [if_pos rfl]; exact Post.here p1 m1 r1⟩
      · rename_i e
        exact ⟨false, truth_at m1 r1 e, by rw [if_neg (by decide)]; exact ⟨ρ1, δ, M1, s.ext x1, m1, p1⟩⟩
      · exact False.elim p1
theorem imW_bool {op : BoolOp} {pos : Pos} (f : Expr → DenB) : ∀ es : List Expr, (∀ e ∈ es, ImT X W E e (f e)) → PW X (.BoolOp op es pos) (tT W E (tBool op (es.map f)))
  | [], _ => ⟨fun w pins s σ H Q I h => let ⟨_, _, _, _, _, p⟩ := h; False.elim p⟩
  | [a], h => by
    cases op with
    | And => exact pw_and1 (h a (by simp))
    | Or => exact pw_or1 (h a (by simp))
  | a :: b :: r, h => by
    have h1 : ImT X W E a (f a) := h a (by simp)
    have h2 := imW_bool (op := op) (pos := pos) f (b :: r) fun e he => h e (List.mem_cons_of_mem _ he)
    cases op with
    | And =>
      refine PWimp (pw_and h1 h2) fun σ H Q hh => seqB hh fun ρ δ H b M s m p => ?_
      cases b with
      | true => rw [if_pos rfl] at p ⊢; exact ⟨ρ, δ, M, s, m, p⟩
      | false => rw [if_neg (by decide)] at p ⊢; exact Post.here p m rfl
    | Or =>
      refine PWimp (pw_or h1 h2) fun σ H Q hh => seqB hh fun ρ δ H b M s m p => ?_
      cases b with
      | true => rw [if_pos rfl] at p ⊢; exact Post.here p m rfl
      | false => rw [if_neg (by decide)] at p ⊢; exact ⟨ρ, δ, M, s, m, p⟩
theorem im_if {c a b : Expr} {t : DenB} {da db : Den} {pos : Pos} (hc : ImT X W E c t) (ha : Im X W E a da) (hb : Im X W E b db) : Im X W E (.IfExp c a b pos) (eIf t da db) :=
  PEimp (pe_ifExp hc ha hb) fun σ H Q h => seqB h fun ρ δ H b M s m p => by
    cases b with
    | true => rw [if_pos rfl] at p ⊢; exact ⟨ρ, δ, M, s, m, p⟩
    | false => rw [if_neg (by decide)] at p ⊢; exact ⟨ρ, δ, M, s, m, p⟩
end
end Ev
set_option Elab.async false
set_option linter.all false
set_option maxRecDepth 100000
set_option maxHeartbeats 2000000
/-! Es5: arguments, displays, items, slices, builtins. -/
namespace Ev
open PySem PySem.Spec PyProof.Rows L2
section
variable {X : L2.Cx} {W : Wd} {E : XK} {e : Expr}
/-- an item, with its star or without -/
def ImS (X : L2.Cx) (W : Wd) (E : XK) (e : Expr) (p : Bool × Den) : Prop := (∃ e' q, e = .Starred e' q ∧ p.1 = true ∧ Im X W E e' p.2) ∨ (noStar e = true ∧ p.1 = false ∧ Im X W E e p.2)
theorem starEach_no {e : Expr} {es : List Expr} {env : Env} (h : noStar e = true) : starEach (e :: es) env = (false, eval e env) :: starEach es env := by
  cases e <;> first | rfl | cases h
theorem imA (hK : X.K = W.K) (f : Expr → Bool × Den) : ∀ es : List Expr, (∀ e ∈ es, ImS X W E e (f e)) → ImA X W E es (eL (es.map f))
  | [], _ => PAimp pa_nil fun σ H Q ⟨ρ, δ, M, s, m, p⟩ => Post.here (b := ([] : List V)) p m rfl
  | e :: es, h => by
    have h2 := imA hK f es fun x hx => h x (List.mem_cons_of_mem _ hx)
    rcases h e (by simp) with ⟨e', q, rfl, h1, h3⟩ | ⟨hn, h1, h3⟩
    · refine PAimp (StX.pa_star h3 h2) fun σ H Q ⟨ρ, δ, M, s, m, p⟩ => ?_
      have ef : f (.Starred e' q) = (true, (f (.Starred e' q)).2) := by rw [← h1]
      rw [List.map_cons, ef] at p
      refine ⟨ρ, δ, M, s, m, (Post.bind p).mono fun x H1 ⟨ρ1, a, M1, x1, m1, r1, p1⟩ => ?_⟩
      split at p1
      · rename_i ys hy
        obtain ⟨b, xs, rfl, t, q1⟩ := anyOf_at m1 r1 hy
        refine ⟨b, xs, rfl, by rw [hK]; exact t.symm, ρ1, δ, M1, s.ext x1, m1, (Post.bind p1).mono fun zs H2 ⟨ρ2, b2, M2, x2, m2, r2, p2⟩ => ?_⟩
        exact Post.here p2 m2 ((RepL.ext x2 _ _ q1).append r2)
      · exact False.elim p1
    · refine PAimp (pa_cons h3 h2 (starEach_no hn)) fun σ H Q ⟨ρ, δ, M, s, m, p⟩ => ?_
      have ef : f e = (false, (f e).2) := by rw [← h1]
      rw [List.map_cons, ef] at p
      refine ⟨ρ, δ, M, s, m, (Post.bind p).mono fun x H1 ⟨ρ1, a, M1, x1, m1, r1, p1⟩ => ?_⟩
      refine ⟨ρ1, δ, M1, s.ext x1, m1, (Post.bind p1).mono fun zs H2 ⟨ρ2, b2, M2, x2, m2, r2, p2⟩ => ?_⟩
      exact Post.here p2 m2 ⟨x, zs, rfl, Rep.ext x2 _ _ r1, r2⟩
/-- behind arguments -/
theorem seqA {da : DenL} {f : List D → Mem → Res D} {σ : L2.St} {H : Hp} {Q : VK} {r : List V → Hp → Prop}
    (h : tI W E (fun δ M => (da δ M).bind fun x M => f x M) σ H Q)
    (k : ∀ ρ H a M v, MemAt W ρ H M → RepL W ρ H a v → Post W (Rep W) ρ H (f a M) Q E → r v H) :
    tA W E da σ H fun x H1 => r x H1 := by
  obtain ⟨ρ, δ, M, s, m, p⟩ := h
  exact ⟨ρ, δ, M, s, m, (Post.bind p).mono fun x H1 ⟨ρ1, a, M1, x1, m1, r1, p1⟩ => k ρ1 H1 a M1 x m1 r1 p1⟩
theorem im_tup {es : List Expr} {as : List (Bool × Den)} {k : Nat} {pos : Pos} (h : ImA X W E es (eL as)) : Im X W E (.Tuple es k pos) (eTup as) :=
  PEimp (pe_tup h) fun σ H Q hh => seqA hh fun ρ H a M v m ra p => by
    obtain ⟨hz, p⟩ := guardR_ok p
    exact ⟨by rw [← ra.length]; exact of_decide_eq_true hz, fun b hb => new_tup m ra p hb⟩
theorem im_lst {es : List Expr} {as : List (Bool × Den)} {hint : Bool} {pos : Pos} (h : ImA X W E es (eL as)) : Im X W E (.List es pos) (eLst hint as) :=
  PEimp (pe_lst h) fun σ H Q hh => seqA hh fun ρ H a M v m ra p => by
    split at p
    · rename_i hz
      exact ⟨by rw [← ra.length]; exact hz, fun b hb => new_lst m ra p hb⟩
    · exact False.elim p
/-! ### items -/
theorem atI_rep {ρ : Rho} {H : Hp} {ds : List D} {xs : List V} {i : Int} {d : D} (r : RepL W ρ H ds xs) (e : atI ds i = some d) : ∃ v, atI xs i = some v ∧ Rep W ρ H d v := by
  unfold atI at e ⊢
  obtain ⟨j, h1, h2⟩ := Option.bind_eq_some_iff.mp e
  obtain ⟨v, h3, h4⟩ := r.get h2
  exact ⟨v, by rw [← r.length, h1]; exact h3, h4⟩
theorem f_ix : Op2 W E ixD (fun x y H Q => rIx W.K x y H Q ∨ rIxK W x y H Q) := by
  intro ρ H a b M v w Q m ra rb p
  have sq : ∀ ds i, anyOf M a = some ds → w = .int i → (∃ d, atI ds i = some d ∧ Post W (Rep W) ρ H (.ok d M) Q E) → rIx W.K v w H Q := fun ds i h1 h2 ⟨d, h3, p⟩ => by
    obtain ⟨c, xs, rfl, t, r⟩ := anyOf_at m ra h1
    obtain ⟨u, h4, h5⟩ := atI_rep r h3
    rcases t with t | t
    · exact .inl ⟨c, xs, i, u, rfl, h2, t, h4, Post.here p m h5⟩
    · exact .inr (.inl ⟨c, xs, i, u, rfl, h2, t, h4, Post.here p m h5⟩)
  have gen : ∀ i, b = .int i → Post W (Rep W) ρ H (ixSeq (anyOf M a) i M) Q E → rIx W.K v w H Q := fun i hb p2 => by
    unfold ixSeq at p2
    split at p2
    · rename_i xs hx
      split at p2
      · rename_i d hd
        exact sq xs i hx (by rw [hb] at rb; exact rb) ⟨d, hd, p2⟩
      · exact False.elim p2
    · exact False.elim p2
  cases a with
  | str z => cases b with
    | int i =>
      have p' : Post W (Rep W) ρ H (ixStr z i M) Q E := p
      unfold ixStr at p'
      split at p'
      · rename_i c hc
        obtain ⟨h, p⟩ := guardR_ok p'
        exact .inl (.inr (.inr ⟨z, i, c, ra, rb, of_decide_eq_true h, hc, Post.here p m rfl⟩))
      · exact False.elim p'
    | _ => exact False.elim p
  | ref n =>
    have p' : Post W (Rep W) ρ H (ixObj M[n]? b M) Q E := p
    clear p
    generalize ho : M[n]? = o at p'
    unfold ixObj at p'
    split at p'
    · rename_i xs i
      split at p'
      · rename_i d hd
        exact .inl (sq xs i (lstAt_of ho) rb ⟨d, hd, p'⟩)
      · exact False.elim p'
    · rename_i kvs
      split at p'
      · rename_i hk
        split at p'
        · rename_i d hd
          exact .inr ⟨ρ, M, b, n, kvs, d, m, rb, ra, ho, hk, hd, fun u r => Post.here p' m r⟩
        · exact False.elim p'
      · exact False.elim p'
    · exact False.elim p'
  | _ => cases b with
    | int i => exact .inl (gen i rfl p)
    | _ => exact False.elim p
theorem plainIx_of {b : Expr} (h : notSlice b = true) : PlainIx b := by
  cases b <;> first | exact fun _ _ => rfl | cases h
theorem im_ix (sm : Same X W) (hu : X.A.units + 65 < cLine) {a b : Expr} {da db : Den} {pos : Pos} (hb' : notSlice b = true) (ha : Im X W E a da) (hb : Im X W E b db) : Im X W E (.Subscript a b pos) (eIx da db) :=
  PEimp (pe_ix (r := fun x y H Q => rIx W.K x y H Q ∨ rIxK W x y H Q) (IxR.or (by rw [← sm.K]; exact ix_seq) (ix_K sm hu)) ha hb (plainIx_of hb')) fun σ H Q h => seq2 h fun ρ H a b M v w m ra rb p => f_ix ρ H a b M v w Q m ra rb p
/-! ### slices -/
theorem cutD_rep {ρ : Rho} {H : Hp} {ds : List D} {xs : List V} (r : RepL W ρ H ds xs) (lo hi : Option Int) : RepL W ρ H (cutD ds lo hi) (cutV xs lo hi) := by
  unfold cutD cutV
  rw [r.length]
  exact (r.drop _).take _
theorem cutD_whole {ds : List D} {lo hi : Option Int} (h : HT.sIx ds.length 0 lo = 0 ∧ HT.sIx ds.length ds.length hi = ds.length) : cutD ds lo hi = ds := by
  unfold cutD
  rw [h.1, h.2]
  simp
def rSlAll (K : PySem.W.Frag) : V → Option Int → Option Int → Hp → VK → Prop := fun x lo hi H Q => rSlL K x lo hi H Q ∨ (rSlA K x lo hi H Q ∨ rSlS x lo hi H Q)
theorem sl_all : SlR X (rSlAll X.K) := sl_list.or (sl_tupA.or sl_str)
theorem f_sl {ρ : Rho} {H : Hp} {a : D} {lo hi : Option Int} {M : Mem} {v : V} {Q : VK} (m : MemAt W ρ H M) (ra : Rep W ρ H a v) (p : Post W (Rep W) ρ H (slD a lo hi M) Q E) : rSlAll W.K v lo hi H Q := by
  have lst : Post W (Rep W) ρ H (match seqOf M a with | some xs => .ok (.lst (cutD xs lo hi)) M | none => .bad) Q E → rSlAll W.K v lo hi H Q := fun p => by
    split at p
    · rename_i ds hd
      obtain ⟨c, xs, rfl, t, r⟩ := seqOf_at m ra hd
      exact .inl ⟨c, xs, rfl, .of t, fun b hb => new_frz m (cutD_rep r lo hi) p hb⟩
    · exact False.elim p
  cases a with
  | str z =>
    obtain ⟨h, p⟩ := guardR_ok p
    exact .inr (.inr ⟨_, ra, of_decide_eq_true h, Post.here p m rfl⟩)
  | tup ds =>
    obtain ⟨c, xs, rfl, t, r⟩ := ra
    refine .inr (.inl ⟨c, xs, rfl, t.sq, fun h => ?_, fun _ b hb => new_tup m (cutD_rep r lo hi) p hb⟩)
    rw [← r.length] at h
    have p2 : Post W (Rep W) ρ H (.ok (.tup (cutD ds lo hi)) M) Q E := p
    rw [cutD_whole h] at p2
    exact Post.here p2 m ⟨c, xs, rfl, t, r⟩
  | frz ds =>
    obtain ⟨c, xs, rfl, t, r⟩ := ra
    exact .inl ⟨c, xs, rfl, t.sq, fun b hb => new_frz m (cutD_rep r lo hi) p hb⟩
  | _ => exact lst p
theorem POimp {e : Option Expr} {t t' : TO} (h : PO X e t) (k : ∀ σ H Q, t' σ H Q → t σ H Q) : PO X e t' := by
  obtain ⟨h⟩ := h
  exact ⟨fun pins s σ H Q I q => h pins s σ H Q I (k _ _ _ q)⟩
theorem imO_none : ImO X W E none oNone := POimp po_none fun σ H Q ⟨ρ, δ, M, s, m, p⟩ => Post.here p m rfl
theorem imO_some {a : Expr} {da : Den} (ha : Im X W E a da) : ImO X W E (some a) (oSome da) := POimp (po_some ha) fun σ H Q ⟨ρ, δ, M, s, m, p⟩ => by
  refine ⟨ρ, δ, M, s, m, (Post.bind p).mono fun x H1 ⟨ρ1, a, M1, x1, m1, r1, p1⟩ => ?_⟩
  split at p1
  · exact ⟨_, r1, Post.here p1 m1 rfl⟩
  · exact False.elim p1
theorem im_sl (hK : X.K = W.K) {a : Expr} {lo hi : Option Expr} {da : Den} {dl dh : DenO} {p2 pos : Pos} (ha : Im X W E a da) (hl : ImO X W E lo dl) (hh : ImO X W E hi dh) : Im X W E (.Subscript a (.Slice lo hi none p2) pos) (eSl da dl dh) :=
  PEimp (pe_slice sl_all ha hl hh) fun σ H Q ⟨ρ, δ, M, s, m, p⟩ => by
    refine ⟨ρ, δ, M, s, m, (Post.bind p).mono fun x H1 ⟨ρ1, a, M1, x1, m1, r1, p1⟩ => ?_⟩
    refine ⟨ρ1, δ, M1, s.ext x1, m1, (Post.bind p1).mono fun l H2 ⟨ρ2, l', M2, x2, m2, r2, p2⟩ => ?_⟩
    have e2 : l' = l := r2
    subst e2
    refine ⟨ρ2, δ, M2, s.ext (x1.trans x2), m2, (Post.bind p2).mono fun u H3 ⟨ρ3, u', M3, x3, m3, r3, p3⟩ => ?_⟩
    have e3 : u' = u := r3
    subst e3
    rw [hK]
    exact f_sl m3 (Rep.ext (x2.trans x3) _ _ r1) p3
end
end Ev
set_option Elab.async false
set_option linter.all false
set_option maxRecDepth 100000
set_option maxHeartbeats 2000000
/-! Es6: builtins and methods. -/
namespace Ev
open PySem PySem.Spec PyProof.Rows L2
section
variable {X : L2.Cx} {W : Wd} {E : XK} {e : Expr}
/-! ### isinstance -/
theorem kind_at {ρ : Rho} {H : Hp} {M : Mem} {d : D} {v : V} {k : String} (m : MemAt W ρ H M) (r : Rep W ρ H d v) (h : kindD M d = some k) : TyX W.K H v (.type k) := by
  cases d with
  | non => cases r; cases h; exact .base .non
  | bl b => cases r; cases h; exact .base (.bl b)
  | int i => cases r; cases h; exact .base (.int i)
  | str x => cases r; cases h; exact .base (.str x)
  | tup ds =>
    obtain ⟨a, xs, rfl, t, _⟩ := r
    cases h
    rcases t with t | ⟨o, its, n, h1, h2, _⟩
    · exact .base (.tup t.1)
    · exact .kTuple h1 h2
  | lst ds =>
    obtain ⟨a, xs, rfl, t, _⟩ := r
    cases h
    exact .base (.lst t.1)
  | frz ds =>
    obtain ⟨a, xs, rfl, t, _⟩ := r
    cases h
    rcases t with (t | ⟨o, t⟩) | ⟨o, its, n, h1, h2, _⟩
    · exact .base (.lst t.1)
    · exact .base (.frz t.1)
    · exact .kList h1 h2
  | ref n =>
    have h' : (match M[n]? with | some (.lst _) => some "list" | _ => none) = some k := h
    split at h'
    · rename_i ds hd
      obtain ⟨a, xs, rfl, t, _⟩ := seqOf_at (d := .ref n) m r (lstAt_of hd)
      cases h'
      exact .base (.lst t)
    · cases h'
  | _ => cases h
def kinds : List String := ["NoneType", "bool", "int", "str", "tuple", "list", "dict"]
theorem kindD_mem {M : Mem} {d : D} {k : String} (h : kindD M d = some k) : k ∈ kinds := by
  cases d with
  | non => cases h; decide +kernel
  | bl b => cases h; decide +kernel
  | int i => cases h; decide +kernel
  | str x => cases h; decide +kernel
  | tup ds => cases h; decide +kernel
  | lst ds => cases h; decide +kernel
  | frz ds => cases h; decide +kernel
  | ref n =>
    have h' : (match M[n]? with | some (.lst _) => some "list" | _ => none) = some k := h
    split at h'
    · cases h'; decide +kernel
    · cases h'
  | _ => cases h
theorem kit_tab : (kinds.all fun k => okTys.all fun t => decide (kitB k t = some (isTyD k t))) = true := by decide +kernel
theorem kit_at {k t : String} (hk : k ∈ kinds) (ht : okTys.contains t = true) : PySem.W.kitOne W.K (.type k) (.type t) = some (isTyD k t) :=
  kit_ty (of_decide_eq_true (List.all_eq_true.mp (List.all_eq_true.mp kit_tab k hk) t (by simpa using ht)))
theorem kits_at {k : String} (hk : k ∈ kinds) : ∀ {ts : List String}, ts.all okTys.contains = true → PySem.W.kitAny W.K (.type k) (ts.map Value.type) = some (ts.any (isTyD k))
  | [], _ => rfl
  | t :: ts, h => by
    simp only [List.all_cons, Bool.and_eq_true] at h
    refine kitAny_cons (kit_at hk h.1) (fun hb => ?_) fun hb => ?_
    · rw [List.any_cons, hb, Bool.false_or]
      exact kits_at hk h.2
    · rw [List.any_cons, hb, Bool.true_or]
theorem tys_rep {ρ : Rho} {H : Hp} : ∀ {ds : List D} {vs : List V} {ts : List String}, RepL W ρ H ds vs → tysOf ds = some ts → vs = ts.map V.ty
  | [], _, _, h, e => by cases h; cases e; rfl
  | d :: ds, _, ts, ⟨v, vs, rfl, h, r⟩, e => by
    cases d with
    | ty t =>
      obtain ⟨js, h1, rfl⟩ := Option.map_eq_some_iff.mp (show (tysOf ds).map (t :: ·) = some ts from e)
      cases h
      rw [tys_rep r h1]
      rfl
    | _ => cases e
theorem cls_tys : ∀ ts : List String, Paired ClsV (ts.map V.ty) (ts.map Value.type)
  | [] => .nil
  | t :: ts => .cons (.ty t) (cls_tys ts)
theorem tys_vals : ∀ {ts : List String} {us : List Value}, Vals (ts.map V.ty) us → us = ts.map Value.type
  | [], _, .nil => rfl
  | t :: ts, _, .cons r rr => by
    have h1 : _ = Value.type t := r
    rw [h1, tys_vals rr]
    rfl
def rIsiAll (K : PySem.W.Frag) : List V → Hp → VK → Prop := fun xs H Q => rIsi K xs H Q ∨ (rIsiT K xs H Q ∨ rIsiK K xs H Q)
theorem cr_isi : CallR X (.builtin "isinstance") (rIsiAll X.K) := call_isi.or (call_isiT.or call_isiK)
theorem isi_at {ρ : Rho} {H : Hp} {M : Mem} {a b : D} {v w : V} {k : Bool} {Q : VK} (m : MemAt W ρ H M) (ra : Rep W ρ H a v) (rb : Rep W ρ H b w) (e : isiD M a b = some k) (q : Q (.bl k) H) : rIsiAll W.K [v, w] H Q := by
  unfold isiD at e
  split at e
  · rename_i kd t hk
    split at e
    · rename_i ht
      cases e
      cases rb
      exact .inl ⟨v, .ty t, _, _, _, rfl, .ty t, kind_at m ra hk, kit_at (kindD_mem hk) ht, q⟩
    · cases e
  · rename_i kd ts hk
    split at e
    · rename_i tn htn
      split at e
      · rename_i ht
        cases e
        obtain ⟨c, xs, rfl, t, r⟩ := rb
        have ex := tys_rep r htn
        subst ex
        rcases t with t | ⟨o, its, n, h1, h2, h3, h4, h5⟩
        · exact .inr (.inl ⟨v, c, _, _, _, _, rfl, t.1, cls_tys tn, kind_at m ra hk, kits_at (kindD_mem hk) ht, q⟩)
        · obtain ⟨oc, od, dt, sl⟩ := o
          simp only at h2 h3
          subst h2 h3
          have e5 := tys_vals h5
          have e6 : its = (tn.map Value.type).toArray := by rw [← e5]
          rw [e6] at h1
          exact .inr (.inr ⟨v, c, _, _, _, _, _, _, rfl, h1, kind_at m ra hk, kits_at (kindD_mem hk) ht, q⟩)
      · cases e
    · cases e
  · cases e
/-! ### repr -/
def rRepr (K : PySem.W.Frag) : List V → Hp → VK → Prop := fun xs H Q => ∃ x p, xs = [x] ∧ Dp K H x p ∧ p.showable = true ∧ p.hasDict = false ∧ p.depth ≤ 64 ∧ p.shown.length ≤ sizeLine ∧ Q (.str p.shown) H
theorem cr_repr (hg : X.A.guards = some []) (hu : X.A.units + 66 < cLine) : CallR X (.builtin "repr") (rRepr X.K) := by
  intro pins s σ H xs us Q I r h
  obtain ⟨x, p, rfl, hd, h1, h2, h3, h4, q⟩ := h
  obtain ⟨u, rfl, rx⟩ := vals1 r
  cases hd with
  | non => cases rx; exact PySem.P.repr_of_none ⟨.str _, H, I.tok _, ⟨_, rfl⟩, q⟩
  | bl b => cases rx; exact PySem.P.repr_of_bool ⟨.str _, H, I.tok _, ⟨_, rfl⟩, q⟩
  | int i =>
    obtain ⟨t, rfl⟩ := rx
    exact PySem.P.repr_of_int (by simpa [PyData.showable] using h1) ⟨.str _, H, I.tok _, ⟨_, rfl⟩, q⟩
  | str x =>
    obtain ⟨t, rfl⟩ := rx
    exact PySem.P.repr_of_str ⟨.str _, H, I.tok _, ⟨_, rfl⟩, q⟩ (by simpa [PyData.shown] using h4)
  | lst t c =>
    obtain ⟨as, rd⟩ := Dp.reads I _ _ _ (Dp.lst t c) rx
    cases rx
    exact repr_of_reads' rd h1 (by rw [h2]; exact fun z => by cases z) hg (by omega) (fun _ _ z => z) (fun h' u tk k => ⟨.str _, H, I.kept k, ⟨u, rfl⟩, q⟩) h4
  | tup t c =>
    obtain ⟨as, rd⟩ := Dp.reads I _ _ _ (Dp.tup t c) rx
    cases rx
    exact repr_of_reads' rd h1 (by rw [h2]; exact fun z => by cases z) hg (by omega) (fun _ _ z => z) (fun h' u tk k => ⟨.str _, H, I.kept k, ⟨u, rfl⟩, q⟩) h4
/-! ### the builtins, by values -/
def biV : Bi → Value
  | .len => .builtin "len"
  | .isinstance => .builtin "isinstance"
  | .all => .builtin "all"
  | .any => .builtin "any"
  | .sum => .builtin "sum"
  | .tuple => .type "tuple"
  | .list => .type "list"
  | .max => .builtin "max"
  | .min => .builtin "min"
  | .int => .type "int"
  | .sorted => .builtin "sorted"
  | .repr => .builtin "repr"
  | .str => .type "str"
  | .bool => .type "bool"
def rLenAll (K : PySem.W.Frag) : List V → Hp → VK → Prop := fun xs H Q => (∃ z, xs = [.str z] ∧ z.length ≤ sizeLine ∧ Q (.int z.length) H) ∨ ∃ p ys, xs = [.ref p] ∧ (SqL K H p ys ∨ SqT K H p ys) ∧ Q (.int ys.length) H
def rBi (K : PySem.W.Frag) : Bi → List V → Hp → VK → Prop
  | .len => rLenAll K
  | .isinstance => rIsiAll K
  | .all => rAll K
  | .any => rAny K
  | .sum => rSum K
  | .tuple => fun xs H Q => ∃ p ys, xs = [.ref p] ∧ ((SqL K H p ys ∧ ∀ l, H l = none → Q (.ref l) (upd H l (.tup ys))) ∨ (SqT K H p ys ∧ Q (.ref p) H))
  | .max => fun xs H Q => ∃ i j, xs = [.int i, .int j] ∧ Q (.int (if j > i then j else i)) H
  | .min => fun xs H Q => ∃ i j, xs = [.int i, .int j] ∧ Q (.int (if j < i then j else i)) H
  | .int => fun xs H Q => (∃ i, xs = [.int i] ∧ Q (.int i) H) ∨ ∃ k, xs = [.bl k] ∧ Q (.int (if k then 1 else 0)) H
  | .repr => rRepr K
  | _ => fun _ _ _ => False
theorem cr_never {f : Value} : CallR X f (fun _ _ _ => False) := fun _ _ _ _ _ _ _ _ _ h => h.elim
theorem cr_bi (hc : X.calm = true) (hg : X.A.guards = some []) (hu : X.A.units + 66 < cLine) : ∀ b : Bi, CallR X (biV b) (rBi X.K b)
  | .len => call_len_str.or call_len_seq
  | .isinstance => cr_isi
  | .all => cr_all hc
  | .any => cr_any hc
  | .sum => cr_sum hc
  | .tuple => call_tuple_of
  | .list => cr_never
  | .max => call_max2 hc
  | .min => call_min2 hc
  | .int => call_int1
  | .sorted => cr_never
  | .repr => cr_repr hg hu
  | .str => cr_never
  | .bool => cr_never
theorem bools_rep {ρ : Rho} {H : Hp} : ∀ {ds : List D} {vs : List V} {bs : List Bool}, RepL W ρ H ds vs → boolsOf ds = some bs → vs = bs.map V.bl
  | [], _, _, h, e => by cases h; cases e; rfl
  | d :: ds, _, bs, ⟨v, vs, rfl, h, r⟩, e => by
    cases d with
    | bl b =>
      obtain ⟨js, h1, rfl⟩ := Option.map_eq_some_iff.mp (show (boolsOf ds).map (b :: ·) = some bs from e)
      cases h
      rw [bools_rep r h1]
      rfl
    | _ => cases e
theorem f_bi (b : Bi) {ρ : Rho} {H : Hp} {M : Mem} {ds : List D} {vs : List V} {Q : VK} (m : MemAt W ρ H M) (r : RepL W ρ H ds vs) (p : Post W (Rep W) ρ H (biD b ds M) Q E) : rBi W.K b vs H Q := by
  unfold biD at p
  split at p
  · obtain ⟨h, p⟩ := guardR_ok p
    obtain ⟨v, rfl, rv⟩ := r.inv1
    exact .inl ⟨_, by rw [show v = _ from rv], of_decide_eq_true h, Post.here p m rfl⟩
  · obtain ⟨v, rfl, rv⟩ := r.inv1
    split at p
    · rename_i ys hy
      obtain ⟨a, xs, rfl, t, q⟩ := anyOf_at m rv hy
      refine .inr ⟨a, xs, rfl, t, ?_⟩
      rw [← q.length]
      exact Post.here p m rfl
    · exact False.elim p
  · obtain ⟨v, w, rfl, rv, rw'⟩ := r.inv2
    obtain ⟨k, e, p⟩ := optR_ok p
    exact isi_at m rv rw' e (Post.here p m rfl)
  · obtain ⟨v, rfl, rv⟩ := r.inv1
    split at p
    · rename_i bs hb
      obtain ⟨ys, h1, h2⟩ := Option.bind_eq_some_iff.mp hb
      obtain ⟨a, xs, rfl, t, q⟩ := seqOf_at m rv h1
      rw [bools_rep q h2] at t
      exact ⟨a, bs, rfl, .of t, Post.here p m rfl⟩
    · exact False.elim p
  · obtain ⟨v, rfl, rv⟩ := r.inv1
    split at p
    · rename_i bs hb
      obtain ⟨ys, h1, h2⟩ := Option.bind_eq_some_iff.mp hb
      obtain ⟨a, xs, rfl, t, q⟩ := seqOf_at m rv h1
      rw [bools_rep q h2] at t
      exact ⟨a, bs, rfl, .of t, Post.here p m rfl⟩
    · exact False.elim p
  · obtain ⟨v, rfl, rv⟩ := r.inv1
    split at p
    · rename_i bs hb
      obtain ⟨ys, h1, h2⟩ := Option.bind_eq_some_iff.mp hb
      obtain ⟨a, xs, rfl, t, q⟩ := seqOf_at m rv h1
      rw [ints_rep q h2] at t
      exact ⟨a, bs, rfl, .of t, Post.here p m rfl⟩
    · exact False.elim p
  · obtain ⟨v, rfl, rv⟩ := r.inv1
    obtain ⟨a, xs, rfl, t, q⟩ := rv
    exact ⟨a, xs, rfl, .inr ⟨t.sq, Post.here p m ⟨a, xs, rfl, t, q⟩⟩⟩
  · obtain ⟨v, rfl, rv⟩ := r.inv1
    split at p
    · rename_i ys hy
      obtain ⟨a, xs, rfl, t, q⟩ := seqOf_at m rv hy
      exact ⟨a, xs, rfl, .inl ⟨.of t, fun l hl => new_tup m q p hl⟩⟩
    · exact False.elim p
  · obtain ⟨v, w, rfl, rv, rw'⟩ := r.inv2
    cases rv
    cases rw'
    exact ⟨_, _, rfl, Post.here p m rfl⟩
  · obtain ⟨v, w, rfl, rv, rw'⟩ := r.inv2
    cases rv
    cases rw'
    exact ⟨_, _, rfl, Post.here p m rfl⟩
  · obtain ⟨v, rfl, rv⟩ := r.inv1
    cases rv
    exact .inl ⟨_, rfl, Post.here p m rfl⟩
  · obtain ⟨v, rfl, rv⟩ := r.inv1
    cases rv
    exact .inr ⟨_, rfl, Post.here p m rfl⟩
  · obtain ⟨v, rfl, rv⟩ := r.inv1
    split at p
    · rename_i x hx
      unfold reprD at hx
      split at hx
      · rename_i pd hp
        split at hx
        · rename_i hc
          cases hx
          simp only [Bool.and_eq_true, decide_eq_true_eq, Bool.not_eq_true'] at hc
          exact ⟨v, pd, rfl, toP_dp m 70 _ _ _ rv hp, hc.1.1.1, hc.1.1.2, hc.1.2, hc.2, Post.here p m rfl⟩
        · cases hx
      · cases hx
    · exact False.elim p
  · exact False.elim p
end
end Ev
set_option Elab.async false
set_option linter.all false
set_option maxRecDepth 100000
set_option maxHeartbeats 2000000
/-! Es7: calls of builtins and methods; what is walked; comprehensions. -/
namespace Ev
open PySem PySem.Spec PyProof.Rows L2
section
variable {X : L2.Cx} {W : Wd} {E : XK} {e : Expr}
/-! ### a call's arguments, no star among them -/
theorem stars_no {env : Env} : ∀ {es : List Expr}, es.all noStar = true → ∀ pos, (backTo pos (starEach es env)).any (·.1) = false
  | [], _, _ => rfl
  | e :: es, h, pos => by
    simp only [List.all_cons, Bool.and_eq_true] at h
    rw [starEach_no h.1]
    show (false || (backTo pos (starEach es env)).any (·.1)) = false
    rw [stars_no h.2 pos]
    rfl
theorem few_ok {env : Env} : ∀ {es : List Expr}, es.all noStar = true → ∀ pos, (backTo pos (starEach es env)).all (fun x => !x.1) = true
  | [], _, _ => rfl
  | e :: es, h, pos => by
    simp only [List.all_cons, Bool.and_eq_true] at h
    rw [starEach_no h.1]
    show (true && (backTo pos (starEach es env)).all fun x => !x.1) = true
    rw [few_ok h.2 pos]
    rfl
def biN : Bi → Str
  | .len => "len"
  | .isinstance => "isinstance"
  | .all => "all"
  | .any => "any"
  | .sum => "sum"
  | .tuple => "tuple"
  | .list => "list"
  | .max => "max"
  | .min => "min"
  | .int => "int"
  | .sorted => "sorted"
  | .repr => "repr"
  | .str => "str"
  | .bool => "bool"
theorem ite_some {p : Prop} [Decidable p] {a b : Bi} {o : Option Bi} (h : (if p then some a else o) = some b) : (p ∧ a = b) ∨ o = some b := by
  by_cases hp : p
  · rw [if_pos hp] at h
    exact .inl ⟨hp, Option.some.inj h⟩
  · rw [if_neg hp] at h
    exact .inr h
theorem biOf_name {x : Str} {b : Bi} (h : biOf x = some b) : x = biN b := by
  unfold biOf at h
  repeat (rcases ite_some h with ⟨e, rfl⟩ | h; exact e)
  cases h
theorem boot_bi : ∀ b : Bi, bootBuiltins (biN b) = some (biV b) := by
  intro b
  cases b <;> decide +kernel
theorem name_bi : ∀ b : Bi, biN b ≠ "__name__" ∧ (biN b == ("__debug__" : Str)) = false := by
  intro b
  cases b <;> decide +kernel
/-- a call of what is a builtin or a type -/
theorem pe_callV {x : Str} {v : Value} {p pos : Pos} {e : Expr} {es : List Expr} {t : TA} {r : List V → Hp → VK → Prop} (hv : (∃ id, v = .builtin id) ∨ ∃ T, v = .type T) (hc : CallR X v r) (hg : Gl X x) (hm : X.mg x = none) (hb : bootBuiltins x = some v) (ha : PA X (e :: es) t)
    (hn : x ≠ "__name__") (hdb : (x == ("__debug__" : Str)) = false) (hs : (e :: es).all noStar = true) : PE X (.Call (.Name x p) (e :: es) [] pos) (tCB r t) := by
  simp only [List.all_cons, Bool.and_eq_true] at hs
  rcases hv with ⟨id, rfl⟩ | ⟨T, rfl⟩
  · exact pe_callB hc hg hm hb ha hn hdb (starEach_no hs.1) (stars_no hs.2 _)
  · exact pe_callTy hc hg hm hb ha hn hdb (starEach_no hs.1) (stars_no hs.2 _)
theorem biV_kind (b : Bi) : (∃ id, biV b = .builtin id) ∨ ∃ T, biV b = .type T := by
  cases b <;> first | exact .inl ⟨_, rfl⟩ | exact .inr ⟨_, rfl⟩
theorem biD_nil (b : Bi) (M : Mem) : biD b [] M = .bad := by cases b <;> rfl
theorem im_bi (hK : X.K = W.K) (hc : X.calm = true) (hgd : X.A.guards = some []) (hu : X.A.units + 66 < cLine) {x : Str} {b : Bi} {es : List Expr} {as : List (Bool × Den)} {p pos : Pos} (hx : biOf x = some b) (hg : Gl X x) (hm : X.mg x = none) (hs : es.all noStar = true)
    (hl : es.length = as.length) (ha : ImA X W E es (eL as)) : Im X W E (.Call (.Name x p) es [] pos) (eBi b as) := by
  have ex := biOf_name hx
  subst ex
  cases es with
  | nil =>
    cases as with
    | nil => exact ⟨fun pins s σ H Q I ⟨ρ, δ, M, _, _, h⟩ => by
        have h' : Post W (Rep W) ρ H (biD b [] M) Q E := h
        rw [biD_nil] at h'
        exact False.elim h'⟩
    | cons _ _ => cases hl
  | cons e es =>
    refine PEimp (pe_callV (biV_kind b) (cr_bi hc hgd hu b) hg hm (boot_bi b) ha (name_bi b).1 (name_bi b).2 hs) fun σ H Q h => ?_
    exact seqA h fun ρ H a M v m ra p => by
      rw [hK]
      exact f_bi b m ra p
theorem im_list (hK : X.K = W.K) {hint : Bool} {es : List Expr} {as : List (Bool × Den)} {p pos : Pos} (hg : Gl X "list") (hm : X.mg "list" = none) (hs : es.all noStar = true) (hl : es.length = as.length) (ha : ImA X W E es (eL as)) :
    Im X W E (.Call (.Name "list" p) es [] pos) (eList hint as) := by
  cases es with
  | nil =>
    cases as with
    | nil => exact ⟨fun pins s σ H Q I ⟨ρ, δ, M, _, _, h⟩ => False.elim h⟩
    | cons _ _ => cases hl
  | cons e es =>
    refine PEimp (pe_callV (.inr ⟨_, rfl⟩) call_list_of hg hm (boot_bi .list) ha (name_bi .list).1 (name_bi .list).2 hs) fun σ H Q h => ?_
    refine seqA h fun ρ H a M v m ra p => ?_
    rw [hK]
    split at p
    · obtain ⟨w, rfl, rw'⟩ := ra.inv1
      split at p
      · rename_i ys hy
        obtain ⟨c, xs, rfl, t, q⟩ := anyOf_at m rw' hy
        exact ⟨c, xs, rfl, t, fun l hl => new_lst m q p hl⟩
      · exact False.elim p
    · exact False.elim p
/-! ### ranges -/
theorem rangeD_rep {ρ : Rho} {H : Hp} (lo : Int) (n : Nat) : RepL W ρ H (rangeD lo n) ((List.range n).map fun i => V.int (lo + (i : Nat))) := by
  unfold rangeD
  induction List.range n with
  | nil => rfl
  | cons a r ih => exact ⟨_, _, rfl, rfl, ih⟩
theorem rangeD_rg {ρ : Rho} {H : Hp} (a b : Int) : RepL W ρ H (rangeD a (b - a).toNat) (rgV a b) := rangeD_rep _ _
theorem in62_ok {i : Int} (h : in62 i = true) : -(2 ^ 62) ≤ i ∧ i < 2 ^ 62 := by
  unfold in62 at h
  simpa using h
theorem tupRg_ok {i j : Int} {M : Mem} {ρ : Rho} {H : Hp} {Q : VK} (m : MemAt W ρ H M) (p : Post W (Rep W) ρ H (tupRg i j M) Q E) : RgOk i j ∧ ∀ q, H q = none → Q (.ref q) (upd H q (.tup (rgV i j))) := by
  unfold tupRg at p
  split at p
  · rename_i h
    simp only [Bool.and_eq_true, decide_eq_true_eq] at h
    obtain ⟨a1, a2⟩ := in62_ok h.1.1
    obtain ⟨b1, b2⟩ := in62_ok h.1.2
    exact ⟨⟨a1, a2, b1, b2, by omega⟩, fun q hq => new_tup m (rangeD_rg i j) p hq⟩
  · exact False.elim p
theorem im_tupRg1 (hc : X.calm = true) {a : Expr} {da : Den} {p p2 pos pos2 : Pos} (hg : Gl X "tuple") (hm : X.mg "tuple" = none) (hg2 : Gl X "range") (hm2 : X.mg "range" = none) (hs : noStar a = true) (ha : Im X W E a da) :
    Im X W E (.Call (.Name "tuple" p) [.Call (.Name "range" p2) [a] [] pos2] [] pos) (eTupRg1 da) :=
  PEimp (pe_tupRg hc hg hm (prg_1 hg2 hm2 ha (starEach_no hs)) rfl) fun σ H Q ⟨ρ, δ, M, s, m, p⟩ => ⟨ρ, δ, M, s, m, (Post.bind p).mono fun x H1 ⟨ρ1, a, M1, x1, m1, r1, p1⟩ => by
    split at p1
    · exact ⟨_, r1, tupRg_ok m1 p1⟩
    · exact False.elim p1⟩
theorem im_tupRg2 (hc : X.calm = true) {a b : Expr} {da db : Den} {p p2 pos pos2 : Pos} (hg : Gl X "tuple") (hm : X.mg "tuple" = none) (hg2 : Gl X "range") (hm2 : X.mg "range" = none) (hs : noStar a = true) (hs2 : noStar b = true) (ha : Im X W E a da) (hb : Im X W E b db) :
    Im X W E (.Call (.Name "tuple" p) [.Call (.Name "range" p2) [a, b] [] pos2] [] pos) (eTupRg2 da db) :=
  PEimp (pe_tupRg hc hg hm (prg_2 hg2 hm2 ha hb (starEach_no hs) (starEach_no hs2) (stars_no (es := [b]) (by simpa using hs2) _)) rfl) fun σ H Q h => seq2 h fun ρ H a b M v w m ra rb p => by
    split at p
    · exact ⟨_, _, ra, rb, tupRg_ok m p⟩
    · exact False.elim p
/-! ### methods -/
theorem base_plain {o : Expr} {name : Str} {env : Env} {t : Sem Value} (h : plainBase o = true) : attributeBase o name env t = t := by
  unfold attributeBase
  split
  · cases h
  · rfl
theorem im_append (hK : X.K = W.K) {o a : Expr} {do' da : Den} {apos pos : Pos} (ho' : plainBase o = true) (hp : (apos.endLine == pos.line) = true) (hs : noStar a = true) (ho : Im X W E o do') (ha : Im X W E a da) :
    Im X W E (.Call (.Attribute o "append" apos) [a] [] pos) (eAppend do' da) := by
  have hA : PA X [a] _ := pa_cons ha pa_nil (starEach_no hs)
  refine PEimp (pe_bm PySem.F.plainAttrs_list PySem.F.slot_list_append PySem.F.type_list_append mt_append ho hA (base_plain ho') ?_ hp (starEach_no hs) rfl) fun σ H Q ⟨ρ, δ, M, s, m, p⟩ => ?_
  · rw [few_ok (es := [a]) (by simpa using hs)]; rfl
  refine ⟨ρ, δ, M, s, m, (Post.bind p).mono fun x H1 ⟨ρ1, d, M1, x1, m1, r1, p1⟩ => ?_⟩
  split at p1
  · rename_i n
    split at p1
    · rename_i ys0 h0
      obtain ⟨c, xs, rfl, t, q⟩ := seqOf_at (d := .ref n) m1 r1 h0
      refine ⟨.inl ⟨rfl, xs, by rw [hK]; exact .of t⟩, ρ1, δ, M1, s.ext x1, m1, (Post.bind p1).mono fun y H2 ⟨ρ2, d2, M2, x2, m2, r2, p2⟩ => ?_⟩
      split at p2
      · rename_i ys hy
        obtain ⟨c', xs', h1, h2, h3⟩ := m2.lst (lstAt_some hy)
        have r1' := Rep.ext x2 _ _ r1
        have ec : V.ref c = V.ref c' := r1'.2 c' h1
        cases ec
        split at p2
        · rename_i hz
          refine ⟨c, xs', y, rfl, rfl, h2, by rw [← h3.length]; exact hz, ?_⟩
          have mm := m2.put h1 (h3.append (RepL.one r2))
          exact p2 ρ2 .non _ (ext_put m2 (List.mem_of_getElem? h1)) mm rfl
        · exact False.elim p2
      · exact False.elim p2
    · exact False.elim p1
  · exact False.elim p1
theorem im_bits {o : Expr} {do' : Den} {apos pos : Pos} (ho' : plainBase o = true) (hp : (apos.endLine == pos.line) = true) (ho : Im X W E o do') : Im X W E (.Call (.Attribute o "bit_length" apos) [] [] pos) (eBits do') :=
  PEimp (pe_bits ho (base_plain ho') hp) fun σ H Q ⟨ρ, δ, M, s, m, p⟩ => ⟨ρ, δ, M, s, m, (Post.bind p).mono fun x H1 ⟨ρ1, d, M1, x1, m1, r1, p1⟩ => by
    split at p1
    · exact ⟨_, r1, Post.here p1 m1 rfl⟩
    · exact False.elim p1⟩
end
end Ev
set_option Elab.async false
set_option linter.all false
set_option maxRecDepth 100000
set_option maxHeartbeats 2000000
/-! Es8: targets; what is walked; comprehensions. -/
namespace Ev
open PySem PySem.Spec PyProof.Rows L2
section
variable {X : L2.Cx} {W : Wd} {E : XK} {e : Expr}
/-! ### targets -/
theorem PGimp {tg : Expr} {t t' : TG} (h : PG X tg t) (k : ∀ v σ H Q, t' v σ H Q → t v σ H Q) : PG X tg t' := ⟨fun pins s σ H v u Q I r q => h.run pins s σ H v u Q I r (k _ _ _ _ q)⟩
theorem PGsimp {ts : List Expr} {t t' : TGs} (h : PGs X ts t) (k : ∀ v σ H Q, t' v σ H Q → t v σ H Q) : PGs X ts t' := ⟨fun pins s σ H v u Q I r q => h.run pins s σ H v u Q I r (k _ _ _ _ q)⟩
/-- alike but for the slots is -/
def Alike (is : List Nat) (σ σ' : L2.St) : Prop := σ'.length = σ.length ∧ ∀ i, i ∉ is → σ'[i]? = σ[i]?
theorem Alike.refl (σ : L2.St) : Alike [] σ σ := ⟨rfl, fun _ _ => rfl⟩
theorem Alike.app {is js : List Nat} {σ σ1 σ2 : L2.St} (a : Alike is σ σ1) (b : Alike js σ1 σ2) : Alike (is ++ js) σ σ2 :=
  ⟨b.1.trans a.1, fun i h => by
    simp only [List.mem_append, not_or] at h
    exact (b.2 i h.2).trans (a.2 i h.1)⟩
theorem Alike.set (σ : L2.St) (i : Nat) (v : Option V) : Alike [i] σ (σ.set i v) :=
  ⟨List.length_set, fun j h => List.getElem?_set_ne fun z => h (by rw [z]; simp)⟩
theorem wipe_at (σ : L2.St) : ∀ (vs : List Nat) (i : Nat), (wipe σ vs)[i]? = if i ∈ vs then (if i < σ.length then some none else none) else σ[i]?
  | [], i => by simp [wipe]
  | v :: vs, i => by
    unfold wipe
    by_cases h : v = i
    · subst h
      by_cases hl : v < σ.length
      · rw [List.getElem?_set_self (by rw [wipe_length]; exact hl)]
        simp [hl]
      · rw [List.getElem?_eq_none (by rw [List.length_set, wipe_length]; omega)]
        simp [hl]
    · rw [List.getElem?_set_ne h, wipe_at σ vs i]
      have : i ≠ v := fun z => h z.symm
      simp [this]
theorem Alike.wipe {is vs : List Nat} {σ σ' : L2.St} (a : Alike is σ σ') (h : ∀ i ∈ is, i ∈ vs) : L2.wipe σ' vs = L2.wipe σ vs := by
  apply List.ext_getElem?
  intro i
  rw [wipe_at, wipe_at, a.1]
  by_cases hi : i ∈ vs
  · simp [hi]
  · simp only [hi, if_false]
    exact a.2 i fun z => hi (h i z)
theorem SRep.set {ρ : Rho} {H : Hp} {δ : Slots} {σ : L2.St} {d : D} {v : V} (s : SRep W ρ H δ σ) (r : Rep W ρ H d v) (i : Nat) : SRep W ρ H (δ.set i (some d)) (σ.set i (some v)) := by
  refine ⟨by rw [List.length_set, List.length_set]; exact s.1, fun j e h => ?_⟩
  by_cases hj : i = j
  · subst hj
    by_cases hl : i < δ.length
    · rw [List.getElem?_set_self hl] at h
      have : d = e := by simpa using h
      subst this
      exact ⟨v, List.getElem?_set_self (by rw [← s.1]; exact hl), r⟩
    · rw [List.getElem?_eq_none (by rw [List.length_set]; omega)] at h; cases h
  · rw [List.getElem?_set_ne hj] at h ⊢
    exact s.2 j e h
theorem SRep.wipe {ρ : Rho} {H : Hp} {δ : Slots} {σ : L2.St} (s : SRep W ρ H δ σ) (vs : List Nat) : SRep W ρ H (wipeD δ vs) (L2.wipe σ vs) := by
  induction vs with
  | nil => exact s
  | cons v vs ih =>
    refine ⟨by unfold wipeD L2.wipe; rw [List.length_set, List.length_set]; exact ih.1, fun j d h => ?_⟩
    unfold wipeD at h
    unfold L2.wipe
    by_cases hj : v = j
    · subst hj
      by_cases hl : v < (wipeD δ vs).length
      · rw [List.getElem?_set_self hl] at h; cases h
      · rw [List.getElem?_eq_none (by rw [List.length_set]; omega)] at h; cases h
    · rw [List.getElem?_set_ne hj] at h ⊢
      exact ih.2 j d h
/-- the readings -/
def tG1 (W : Wd) (t : T1) : TG := fun v σ H Q => ∃ ρ δ M d δ', SRep W ρ H δ σ ∧ MemAt W ρ H M ∧ Rep W ρ H d v ∧ setT1 t d δ = some δ' ∧ ∀ σ', SRep W ρ H δ' σ' → Alike t.sl σ σ' → Q σ' H
def tGn (W : Wd) (is : List Nat) : TGs := fun vs σ H Q => ∃ ρ δ M ds δ', SRep W ρ H δ σ ∧ MemAt W ρ H M ∧ RepL W ρ H ds vs ∧ setNs is ds δ = some δ' ∧ ∀ σ', SRep W ρ H δ' σ' → Alike is σ σ' → Q σ' H
def tGs (W : Wd) (ts : List T1) : TGs := fun vs σ H Q => ∃ ρ δ M ds δ', SRep W ρ H δ σ ∧ MemAt W ρ H M ∧ RepL W ρ H ds vs ∧ setT1s ts ds δ = some δ' ∧ ∀ σ', SRep W ρ H δ' σ' → Alike (T1.sls ts) σ σ' → Q σ' H
def tG (W : Wd) (t : Tgt) : TG := fun v σ H Q => ∃ ρ δ M d δ', SRep W ρ H δ σ ∧ MemAt W ρ H M ∧ Rep W ρ H d v ∧ setT t d δ = some δ' ∧ ∀ σ', SRep W ρ H δ' σ' → Alike t.sl σ σ' → Q σ' H
/-- names may be stored where sc says so -/
structure Stores (X : L2.Cx) (N : List Str) (sc : Scope) : Prop where
  nd : X.N.Nodup
  N : X.N = N
  st : ∀ x, isSt sc x = true → Loc X.env.scope x ∧ (X.fn x = true ∨ X.env.scope.names.lookup x = some .local)
theorem ixOf_at {N : List Str} {x : Str} {i : Nat} (h : ixOf N x = some i) : N[i]? = some x := by
  unfold ixOf at h
  obtain ⟨h1, h2, _⟩ := List.findIdx?_eq_some_iff_getElem.mp h
  rw [List.getElem?_eq_getElem h1]
  exact congrArg some (of_decide_eq_true h2)
variable {c : Ecx} {sc : Scope}
theorem pg_nm (S : Stores X c.N sc) {e : Expr} {i : Nat} (h : tgN c sc e = some i) : PG X e (gName i) ∧ noStar e = true := by
  cases e <;> first | (simp [tgN] at h; done) | skip
  rename_i x pos
  have h' : (if isSt sc x then ixOf c.N x else none) = some i := h
  split at h'
  · rename_i hs
    obtain ⟨h1, h2⟩ := S.st x hs
    exact ⟨pg_name S.nd (by rw [S.N]; exact ixOf_at h') h1 h2, rfl⟩
  · cases h'
theorem assignEach_no {e : Expr} {es : List Expr} {env : Env} (h : noStar e = true) : assignEach (e :: es) env = (false, assign e env) :: assignEach es env := by
  cases e <;> first | rfl | cases h
theorem pgs_len {env : Env} : ∀ {es : List Expr}, es.all noStar = true → (assignEach es env).length = es.length ∧ (assignEach es env).findIdx? (·.1) = none
  | [], _ => ⟨rfl, rfl⟩
  | e :: es, h => by
    simp only [List.all_cons, Bool.and_eq_true] at h
    obtain ⟨h1, h2⟩ := pgs_len (env := env) h.2
    rw [assignEach_no h.1]
    refine ⟨by simp [h1], ?_⟩
    rw [List.findIdx?_cons]
    simp [h2]
theorem pgs_c {e : Expr} {es : List Expr} {t : TG} {u : TGs} (h1 : PG X e t) (h2 : PGs X es u) (hn : noStar e = true) : PGs X (e :: es) (gCons t u) :=
  pgs_cons h1 h2 (by rw [assignEach_no hn]; rfl)
theorem pgs_nms (S : Stores X c.N sc) : ∀ {es : List Expr} {is : List Nat}, tgNs c sc es = some is → PGs X es (tGn W is) ∧ es.all noStar = true ∧ es.length = is.length
  | [], is, h => by
    cases h
    refine ⟨PGsimp pgs_nil fun v σ H Q ⟨ρ, δ, M, ds, δ', s, m, r, e, k⟩ => ?_, rfl, rfl⟩
    cases ds with
    | nil =>
      cases e
      exact ⟨r, k σ s (Alike.refl σ)⟩
    | cons _ _ => cases e
  | e :: es, is, h => by
    unfold tgNs at h
    split at h
    · rename_i i js h1 h2
      cases h
      obtain ⟨g, gn⟩ := pg_nm S h1
      obtain ⟨gs, gsn, gl⟩ := pgs_nms S h2
      refine ⟨PGsimp (pgs_c g gs gn) fun v σ H Q ⟨ρ, δ, M, ds, δ', s, m, r, e, k⟩ => ?_, by simp [gn]; simpa using gsn, by simp [gl]⟩
      cases ds with
      | nil => cases e
      | cons d ds =>
        obtain ⟨w, ws, rfl, r1, r2⟩ := r
        exact ⟨w, ws, rfl, ρ, _, M, ds, δ', s.set r1 i, m, r2, e, fun σ' s' a => k σ' s' ((Alike.set σ i (some w)).app a)⟩
    · cases h
theorem pg_t1 (hK : X.K = W.K) (hc : X.calm = true) (S : Stores X c.N sc) {e : Expr} {t : T1} (h : tg1 c sc e = some t) : PG X e (tG1 W t) ∧ noStar e = true := by
  have nm : ∀ e : Expr, (tgN c sc e).map T1.nm = some t → PG X e (tG1 W t) ∧ noStar e = true := fun e h => by
    obtain ⟨i, h1, rfl⟩ := Option.map_eq_some_iff.mp h
    obtain ⟨g, gn⟩ := pg_nm S h1
    refine ⟨PGimp g fun v σ H Q ⟨ρ, δ, M, d, δ', s, m, r, e, k⟩ => ?_, gn⟩
    cases e
    exact k _ (s.set r i) (Alike.set σ i (some v))
  unfold tg1 at h
  split at h
  · rename_i es kk pos
    obtain ⟨is, h1, rfl⟩ := Option.map_eq_some_iff.mp h
    obtain ⟨g, gn, gl⟩ := pgs_nms (W := W) S h1
    obtain ⟨q1, q2⟩ := pgs_len (env := X.env) gn
    refine ⟨PGimp (pg_tup hc g q1 q2) fun v σ H Q ⟨ρ, δ, M, d, δ', s, m, r, e, k⟩ => ?_, rfl⟩
    cases d with
    | tup ds =>
      obtain ⟨a, xs, rfl, t, r⟩ := r
      refine ⟨a, xs, rfl, by rw [hK]; exact t.sq, ?_, ρ, δ, M, ds, δ', s, m, r, e, k⟩
      rw [← r.length, gl]
      have len : ∀ (is : List Nat) (ds : List D) (δ δ' : Slots), setNs is ds δ = some δ' → ds.length = is.length := by
        intro is
        induction is with
        | nil => intro ds δ δ' h; cases ds <;> first | rfl | cases h
        | cons i is ih => intro ds δ δ' h; cases ds with
          | nil => cases h
          | cons d ds => simp [ih ds _ _ h]
      exact len is ds δ δ' e
    | _ => cases e
  · exact nm _ h
theorem pgs_t1s (hK : X.K = W.K) (hc : X.calm = true) (S : Stores X c.N sc) : ∀ {es : List Expr} {ts : List T1}, tg1s c sc es = some ts → PGs X es (tGs W ts) ∧ es.all noStar = true ∧ es.length = ts.length
  | [], is, h => by
    cases h
    refine ⟨PGsimp pgs_nil fun v σ H Q ⟨ρ, δ, M, ds, δ', s, m, r, e, k⟩ => ?_, rfl, rfl⟩
    cases ds with
    | nil =>
      cases e
      exact ⟨r, k σ s (Alike.refl σ)⟩
    | cons _ _ => cases e
  | e :: es, is, h => by
    unfold tg1s at h
    split at h
    · rename_i i js h1 h2
      cases h
      obtain ⟨g, gn⟩ := pg_t1 (W := W) hK hc S h1
      obtain ⟨gs, gsn, gl⟩ := pgs_t1s hK hc S h2
      refine ⟨PGsimp (pgs_c g gs gn) fun v σ H Q ⟨ρ, δ, M, ds, δ', s, m, r, e, k⟩ => ?_, by simp [gn]; simpa using gsn, by simp [gl]⟩
      cases ds with
      | nil => cases e
      | cons d ds =>
        obtain ⟨w, ws, rfl, r1, r2⟩ := r
        obtain ⟨δ1, e1, e2⟩ := Option.bind_eq_some_iff.mp (show (setT1 i d δ).bind (fun δ => setT1s js ds δ) = some δ' from e)
        exact ⟨w, ws, rfl, ρ, δ, M, d, δ1, s, m, r1, e1, fun σ1 s1 a1 => ⟨ρ, δ1, M, ds, δ', s1, m, r2, e2, fun σ2 s2 a2 => k σ2 s2 (a1.app a2)⟩⟩
    · cases h
theorem setT1s_len : ∀ (ts : List T1) (ds : List D) (δ δ' : Slots), setT1s ts ds δ = some δ' → ds.length = ts.length
  | [], ds, δ, δ', h => by cases ds <;> first | rfl | cases h
  | t :: ts, [], δ, δ', h => by cases h
  | t :: ts, d :: ds, δ, δ', h => by
    obtain ⟨δ1, e1, e2⟩ := Option.bind_eq_some_iff.mp (show (setT1 t d δ).bind (fun δ => setT1s ts ds δ) = some δ' from h)
    simp [setT1s_len ts ds _ _ e2]
theorem pg_tgt (hK : X.K = W.K) (hc : X.calm = true) (S : Stores X c.N sc) {e : Expr} {t : Tgt} (h : tgt c sc e = some t) : PG X e (tG W t) ∧ noStar e = true := by
  unfold tgt at h
  split at h
  · rename_i es kk pos
    obtain ⟨is, h1, rfl⟩ := Option.map_eq_some_iff.mp h
    obtain ⟨g, gn, gl⟩ := pgs_t1s (W := W) hK hc S h1
    obtain ⟨q1, q2⟩ := pgs_len (env := X.env) gn
    refine ⟨PGimp (pg_tup hc g q1 q2) fun v σ H Q ⟨ρ, δ, M, d, δ', s, m, r, e, k⟩ => ?_, rfl⟩
    cases d with
    | tup ds =>
      obtain ⟨a, xs, rfl, t, r⟩ := r
      refine ⟨a, xs, rfl, by rw [hK]; exact t.sq, ?_, ρ, δ, M, ds, δ', s, m, r, e, k⟩
      rw [← r.length, gl]
      exact setT1s_len is ds δ δ' e
    | _ => cases e
  · obtain ⟨i, h1, rfl⟩ := Option.map_eq_some_iff.mp h
    obtain ⟨g, gn⟩ := pg_nm S h1
    refine ⟨PGimp g fun v σ H Q ⟨ρ, δ, M, d, δ', s, m, r, e, k⟩ => ?_, gn⟩
    cases e
    exact k _ (s.set r i) (Alike.set σ i (some v))
end
end Ev
set_option Elab.async false
set_option linter.all false
set_option maxRecDepth 100000
set_option maxHeartbeats 2000000
/-! Es9: what is walked. -/
namespace Ev
open PySem PySem.Spec PyProof.Rows L2
section
variable {X : L2.Cx} {W : Wd} {E : XK} {e tg : Expr}
/-- J walks ds as long as the guard holds -/
def Wk (W : Wd) (ρ0 : Rho) (H0 : Hp) (p : List D × Gd) (J : It) : Prop :=
  ∀ ρ H M, Ext ρ0 H0 ρ H → MemAt W ρ H M → gdOk p.2 M = true → ∀ i,
    (∀ d, p.1[i]? = some d → J.go i H ∧ ∀ x H', J.yld i H x H' → Ext ρ H ρ H' ∧ MemAt W ρ H' M ∧ Rep W ρ H' d x) ∧ (p.1.length ≤ i → J.stop i H)
def tIt (W : Wd) (E : XK) (d : DenI) : TI := fun σ H R => ∃ ρ δ M, SRep W ρ H δ σ ∧ MemAt W ρ H M ∧ Post W (Wk W) ρ H (d δ M) R E
abbrev ImI (X : L2.Cx) (W : Wd) (E : XK) (tg e : Expr) (d : DenI) : Prop := PI X tg e (tIt W E d)
theorem PIimp {t t' : TI} (h : PI X tg e t) (k : ∀ σ H R, t' σ H R → t σ H R) : PI X tg e t' := ⟨fun pins s σ H R I q => h.run pins s σ H R I (k _ _ _ q)⟩
theorem PIor {t t' : TI} (h : PI X tg e t) (h' : PI X tg e t') : PI X tg e (fun σ H R => t σ H R ∨ t' σ H R) := ⟨fun pins s σ H R I q => q.elim (h.run pins s σ H R I) (h'.run pins s σ H R I)⟩
theorem imI_bad : ImI X W E tg e (fun _ _ => .bad) := ⟨fun pins s σ H R I ⟨_, _, _, _, _, p⟩ => False.elim p⟩
theorem gdOk_app {g g' : Gd} {M : Mem} (h : gdOk (g ++ g') M = true) : gdOk g M = true ∧ gdOk g' M = true := by
  unfold gdOk at h ⊢
  rw [List.all_append, Bool.and_eq_true] at h
  exact h
/-- a list with its guard stands later, too -/
theorem seqG_at {ρ : Rho} {H : Hp} {M : Mem} {d : D} {v : V} {ds : List D} {g : Gd} (m : MemAt W ρ H M) (r : Rep W ρ H d v) (e : seqG M d = some (ds, g)) :
    ∃ a, v = .ref a ∧ (∃ xs, SqL W.K H a xs ∧ RepL W ρ H ds xs) ∧ ∀ ρ' H' M', Ext ρ H ρ' H' → MemAt W ρ' H' M' → gdOk g M' = true → ∃ xs, SqL W.K H' a xs ∧ RepL W ρ' H' ds xs := by
  cases d with
  | lst es =>
    cases e
    obtain ⟨a, xs, rfl, t, q⟩ := r
    exact ⟨a, rfl, ⟨xs, .of t.1, q⟩, fun ρ' H' M' x _ _ => ⟨xs, .of (Fz.ext x t).1, RepL.ext x _ _ q⟩⟩
  | frz es =>
    cases e
    obtain ⟨a, xs, rfl, t, q⟩ := r
    exact ⟨a, rfl, ⟨xs, t.sq, q⟩, fun ρ' H' M' x _ _ => ⟨xs, (FAt.ext x t).sq, RepL.ext x _ _ q⟩⟩
  | ref n =>
    obtain ⟨es, h1, h2⟩ := Option.map_eq_some_iff.mp (show (lstAt M n).map (fun xs => (xs, [(n, xs)])) = some (ds, g) from e)
    cases h2
    obtain ⟨a, xs, rfl, t, q⟩ := seqOf_at (d := .ref n) m r h1
    refine ⟨a, rfl, ⟨xs, .of t, q⟩, fun ρ' H' M' x m' hg => ?_⟩
    unfold gdOk at hg
    simp only [List.all_cons, List.all_nil, Bool.and_true] at hg
    split at hg
    · rename_i ys hy
      have ey : ys = ds := D.sameL_eq hg
      subst ey
      obtain ⟨b, zs, hb, tb, qb⟩ := m'.lst (lstAt_some hy)
      have r' : Rep W ρ' H' (.ref n) (.ref a) := Rep.ext x _ _ r
      have eb : V.ref a = V.ref b := r'.2 b hb
      cases eb
      exact ⟨zs, .of tb, qb⟩
    · cases hg
  | _ => cases e
theorem sqL_inj {K : PySem.W.Frag} {H : Hp} {a : Addr} {xs : List V} {x : V} {i : Nat} (h : SqL K H a xs) (k : ∀ ys, SqL K H a ys → ys[i]? = some x) : xs[i]? = some x := k xs h
theorem wk_list {ρ : Rho} {H : Hp} {ds : List D} {g : Gd} {a : Addr} (h : ∀ ρ' H' M', Ext ρ H ρ' H' → MemAt W ρ' H' M' → gdOk g M' = true → ∃ xs, SqL W.K H' a xs ∧ RepL W ρ' H' ds xs) : Wk W ρ H (ds, g) (Itl W.K a) := by
  intro ρ' H' M' x m hg i
  obtain ⟨xs, t, q⟩ := h ρ' H' M' x m hg
  refine ⟨fun d hd => ?_, fun hl => ⟨xs, t, by rw [← q.length]; exact hl⟩⟩
  obtain ⟨v, h1, h2⟩ := q.get hd
  refine ⟨⟨xs, v, t, h1⟩, fun y H2 ⟨e, k⟩ => ?_⟩
  subst e
  have hy := k xs t
  rw [h1] at hy
  cases hy
  exact ⟨Ext.refl _ _, m, h2⟩
theorem wk_tup {ρ : Rho} {H : Hp} {ds : List D} {a : Addr} {xs : List V} (t : TAt W.K ρ H a xs) (q : RepL W ρ H ds xs) : Wk W ρ H (ds, []) (Itt W.K a) := by
  intro ρ' H' M' x m hg i
  have t := (TAt.ext x t).sq
  have q := RepL.ext x _ _ q
  refine ⟨fun d hd => ?_, fun hl => ⟨xs, t, by rw [← q.length]; exact hl⟩⟩
  obtain ⟨v, h1, h2⟩ := q.get hd
  refine ⟨⟨xs, v, t, h1⟩, fun y H2 ⟨e, k⟩ => ?_⟩
  subst e
  have hy := k xs t
  rw [h1] at hy
  cases hy
  exact ⟨Ext.refl _ _, m, h2⟩
theorem wk_str {ρ : Rho} {H : Hp} {x : Str} : Wk W ρ H (x.cps.toList.map fun c => .str ⟨#[c]⟩, []) (Its x) := by
  intro ρ' H' M' _ m hg i
  refine ⟨fun d hd => ?_, fun hl => (by simpa using hl : x.cps.size ≤ i)⟩
  rw [List.getElem?_map] at hd
  obtain ⟨c, h1, rfl⟩ := Option.map_eq_some_iff.mp hd
  have h2 : x.cps[i]? = some c := by rw [← h1]; simp
  refine ⟨(Array.getElem?_eq_some_iff.mp h2).1, fun y H2 ⟨e, c', h3, e2⟩ => ?_⟩
  subst e
  rw [h2] at h3
  cases h3
  exact ⟨Ext.refl _ _, m, e2⟩
theorem imI_seq (hK : X.K = W.K) {da : Den} (ha : Im X W E e da) : ImI X W E tg e (iSeq da) :=
  PIimp (PIor (pi_list ha) (PIor (pi_tup ha) (pi_str ha))) fun σ H R ⟨ρ, δ, M, s, m, p⟩ => by
    unfold iSeq at p
    rw [hK]
    cases hd : da δ M with
    | bad => rw [hd] at p; exact False.elim p
    | err c fs M' => exact .inl ⟨ρ, δ, M, s, m, by rw [hd] at p ⊢; exact p⟩
    | ok d M1 =>
      rw [hd] at p
      have gen : Post W (Wk W) ρ H (match seqG M1 d with | some p => Res.ok p M1 | none => .bad) R E → iList W.K (tI W E da) σ H R := fun p => ⟨ρ, δ, M, s, m, by
        rw [hd]
        intro ρ1 v H1 x1 m1 r1
        split at p
        · rename_i pr h1
          obtain ⟨ds, g⟩ := pr
          obtain ⟨a, rfl, ⟨xs, t, _⟩, k⟩ := seqG_at m1 r1 h1
          exact ⟨a, rfl, ⟨xs, t⟩, p ρ1 _ H1 x1 m1 (wk_list k)⟩
        · exact False.elim p⟩
      cases d with
      | tup ds =>
        refine .inr (.inl ⟨ρ, δ, M, s, m, ?_⟩)
        rw [hd]
        intro ρ1 v H1 x1 m1 r1
        obtain ⟨a, xs, rfl, t, q⟩ := r1
        exact ⟨a, rfl, ⟨xs, t.sq⟩, p ρ1 _ H1 x1 m1 (wk_tup t q)⟩
      | str x =>
        refine .inr (.inr ⟨ρ, δ, M, s, m, ?_⟩)
        rw [hd]
        intro ρ1 v H1 x1 m1 r1
        cases r1
        exact ⟨x, rfl, p ρ1 _ H1 x1 m1 wk_str⟩
      | _ => exact .inl (gen p)
/-! ### ranges -/
theorem rangeD_get {lo : Int} {n i : Nat} {d : D} (h : (rangeD lo n)[i]? = some d) : i < n ∧ d = .int (lo + (i : Int)) := by
  unfold rangeD at h
  rw [List.getElem?_map] at h
  obtain ⟨j, h1, rfl⟩ := Option.map_eq_some_iff.mp h
  obtain ⟨h2, h3⟩ := List.getElem?_eq_some_iff.mp h1
  rw [List.getElem_range] at h3
  rw [List.length_range] at h2
  subst h3
  exact ⟨h2, rfl⟩
theorem rangeC_get {lo c : Int} {n i : Nat} {d : D} (h : (rangeC lo c n)[i]? = some d) : i < n ∧ d = .int (lo + (i : Int) * c) := by
  unfold rangeC at h
  rw [List.getElem?_map] at h
  obtain ⟨j, h1, rfl⟩ := Option.map_eq_some_iff.mp h
  obtain ⟨h2, h3⟩ := List.getElem?_eq_some_iff.mp h1
  rw [List.getElem_range] at h3
  rw [List.length_range] at h2
  subst h3
  exact ⟨h2, rfl⟩
theorem wk_range {ρ : Rho} {H : Hp} (lo : Int) (n : Nat) : Wk W ρ H (rangeD lo n, []) (Itr lo n) := by
  intro ρ' H' M' _ m hg i
  refine ⟨fun d hd => ?_, fun hl => ?_⟩
  · obtain ⟨h1, rfl⟩ := rangeD_get hd
    refine ⟨h1, fun y H2 ⟨e, e2⟩ => ?_⟩
    subst e
    exact ⟨Ext.refl _ _, m, e2⟩
  · have z : n ≤ i := by simpa [rangeD] using hl
    exact z
theorem wk_rangeC {ρ : Rho} {H : Hp} (lo c : Int) (n : Nat) : Wk W ρ H (rangeC lo c n, []) (Itc lo c n) := by
  intro ρ' H' M' _ m hg i
  refine ⟨fun d hd => ?_, fun hl => ?_⟩
  · obtain ⟨h1, rfl⟩ := rangeC_get hd
    refine ⟨h1, fun y H2 ⟨e, e2⟩ => ?_⟩
    subst e
    exact ⟨Ext.refl _ _, m, e2⟩
  · have z : n ≤ i := by simpa [rangeC] using hl
    exact z
theorem imI_range1 {a : Expr} {da : Den} {p pos : Pos} (hg : Gl X "range") (hm : X.mg "range" = none) (hs : noStar a = true) (ha : Im X W E a da) : ImI X W E tg (.Call (.Name "range" p) [a] [] pos) (iRange1 da) :=
  PIimp (pi_range1 hg hm (pa_cons ha pa_nil (starEach_no hs)) (starEach_no hs)) fun σ H R ⟨ρ, δ, M, s, m, p⟩ => ⟨ρ, δ, M, s, m, (Post.bind p).mono fun x H1 ⟨ρ1, d, M1, x1, m1, r1, p1⟩ => by
    split at p1
    · split at p1
      · rename_i j h
        obtain ⟨h1, h2⟩ := in62_ok h
        cases r1
        exact ⟨j, rfl, h1, h2, Post.here p1 m1 (wk_range 0 _)⟩
      · exact False.elim p1
    · exact False.elim p1⟩
theorem imI_range2 {a b : Expr} {da db : Den} {p pos : Pos} (hg : Gl X "range") (hm : X.mg "range" = none) (hs : noStar a = true) (hs2 : noStar b = true) (ha : Im X W E a da) (hb : Im X W E b db) : ImI X W E tg (.Call (.Name "range" p) [a, b] [] pos) (iRange2 da db) :=
  PIimp (pi_range2 hg hm (pa_cons ha (pa_cons hb pa_nil (starEach_no hs2)) (starEach_no hs)) (by rw [starEach_no hs, starEach_no hs2]; rfl) (starEach_no hs2)) fun σ H R ⟨ρ, δ, M, s, m, p⟩ => ⟨ρ, δ, M, s, m, (Post.bind p).mono fun x H1 ⟨ρ1, d, M1, x1, m1, r1, p1⟩ =>
    ⟨ρ1, δ, M1, s.ext x1, m1, (Post.bind p1).mono fun y H2 ⟨ρ2, d2, M2, x2, m2, r2, p2⟩ => by
    split at p2
    · split at p2
      · rename_i h
        simp only [Bool.and_eq_true] at h
        obtain ⟨h1, h2⟩ := in62_ok h.1
        obtain ⟨h3, h4⟩ := in62_ok h.2
        exact ⟨_, _, by rw [show x = _ from r1, show y = _ from r2], ⟨h1, h2, h3, h4⟩, Post.here p2 m2 (wk_range _ _)⟩
      · exact False.elim p2
    · exact False.elim p2⟩⟩
theorem imI_range3 {a b c : Expr} {da db dc : Den} {p pos : Pos} (hg : Gl X "range") (hm : X.mg "range" = none) (hs : noStar a = true) (hs2 : noStar b = true) (hs3 : noStar c = true) (ha : Im X W E a da) (hb : Im X W E b db) (hc : Im X W E c dc) :
    ImI X W E tg (.Call (.Name "range" p) [a, b, c] [] pos) (iRange3 da db dc) :=
  PIimp (pi_range3 hg hm (pa_cons ha (pa_cons hb (pa_cons hc pa_nil (starEach_no hs3)) (starEach_no hs2)) (starEach_no hs)) (starEach_no hs) (stars_no (by simp [hs2, hs3]) _)) fun σ H R ⟨ρ, δ, M, s, m, p⟩ => ⟨ρ, δ, M, s, m, (Post.bind p).mono fun x H1 ⟨ρ1, d, M1, x1, m1, r1, p1⟩ =>
    ⟨ρ1, δ, M1, s.ext x1, m1, (Post.bind p1).mono fun y H2 ⟨ρ2, d2, M2, x2, m2, r2, p2⟩ => ⟨ρ2, δ, M2, s.ext (x1.trans x2), m2, (Post.bind p2).mono fun z H3 ⟨ρ3, d3, M3, x3, m3, r3, p3⟩ => by
    split at p3
    · split at p3
      · rename_i h
        simp only [Bool.and_eq_true, decide_eq_true_eq] at h
        exact ⟨_, _, _, _, by rw [show x = _ from r1, show y = _ from r2, show z = _ from r3], ⟨h.1.1.1, h.1.1.2, h.1.2, (Int.toNat_of_nonneg h.2).symm⟩, Post.here p3 m3 (wk_rangeC _ _ _)⟩
      · exact False.elim p3
    · exact False.elim p3⟩⟩⟩
/-! ### enumerate, zip -/
theorem enumD_get : ∀ {ds : List D} {k : Int} {i : Nat} {d : D}, (enumD k ds)[i]? = some d → ∃ e, ds[i]? = some e ∧ d = .tup [.int (k + (i : Int)), e]
  | [], _, _, _, h => by simp [enumD] at h
  | x :: r, k, 0, d, h => by
    simp [enumD] at h
    exact ⟨x, rfl, by rw [← h]; simp⟩
  | x :: r, k, i + 1, d, h => by
    obtain ⟨e, h1, h2⟩ := enumD_get (ds := r) (i := i) (by simpa [enumD] using h)
    refine ⟨e, by simpa using h1, ?_⟩
    have z : k + 1 + (i : Int) = k + ((i + 1 : Nat) : Int) := by omega
    rw [h2, z]
theorem enumD_len : ∀ (ds : List D) (k : Int), (enumD k ds).length = ds.length
  | [], _ => rfl
  | _ :: r, k => by simp [enumD, enumD_len r]
theorem zipD_get : ∀ {xs ys : List D} {i : Nat} {d : D}, (zipD xs ys)[i]? = some d → ∃ x y, xs[i]? = some x ∧ ys[i]? = some y ∧ d = .tup [x, y]
  | [], ys, _, _, h => by simp [zipD] at h
  | x :: xs, [], _, _, h => by simp [zipD] at h
  | x :: xs, y :: ys, 0, d, h => by
    simp [zipD] at h
    exact ⟨x, y, rfl, rfl, h.symm⟩
  | x :: xs, y :: ys, i + 1, d, h => by
    obtain ⟨a, b, h1, h2, h3⟩ := zipD_get (xs := xs) (ys := ys) (i := i) (by simpa [zipD] using h)
    exact ⟨a, b, by simpa using h1, by simpa using h2, h3⟩
theorem zipD_len : ∀ (xs ys : List D), (zipD xs ys).length = min xs.length ys.length
  | [], _ => by simp [zipD]
  | _ :: _, [] => by simp [zipD]
  | _ :: xs, _ :: ys => by simp [zipD, zipD_len xs ys]
/-- a new pair -/
theorem pair_new {ρ : Rho} {H : Hp} {M : Mem} {a b : D} {v w : V} {T : Addr} (m : MemAt W ρ H M) (ra : Rep W ρ H a v) (rb : Rep W ρ H b w) (hT : H T = none) :
    Ext ρ H ρ (upd H T (.tup [v, w])) ∧ MemAt W ρ (upd H T (.tup [v, w])) M ∧ Rep W ρ (upd H T (.tup [v, w])) (.tup [a, b]) (.ref T) := by
  have x := ext_new (o := .tup [v, w]) m hT
  exact ⟨x, m.new hT, T, [v, w], rfl, .inl ⟨upd_same, m.fresh hT⟩, v, [w], rfl, Rep.ext x _ _ ra, w, [], rfl, Rep.ext x _ _ rb, rfl⟩
theorem wk_enum {ρ : Rho} {H : Hp} {ds : List D} {g : Gd} {a : Addr} (h : ∀ ρ' H' M', Ext ρ H ρ' H' → MemAt W ρ' H' M' → gdOk g M' = true → ∃ xs, SqL W.K H' a xs ∧ RepL W ρ' H' ds xs) : Wk W ρ H (enumD 0 ds, g) (Ite W.K a) := by
  intro ρ' H' M' x m hg i
  obtain ⟨xs, t, q⟩ := h ρ' H' M' x m hg
  refine ⟨fun d hd => ?_, fun hl => ⟨xs, t, by rw [← q.length]; simpa [enumD_len] using hl⟩⟩
  obtain ⟨e, he, rfl⟩ := enumD_get hd
  obtain ⟨v, h1, h2⟩ := q.get he
  refine ⟨⟨xs, v, t, h1⟩, fun y H2 ⟨T, z, e1, e2, e3, k⟩ => ?_⟩
  subst e1 e3
  have hy := k xs t
  rw [h1] at hy
  cases hy
  exact pair_new m (show Rep W ρ' H' (.int (0 + (i : Int))) (.int (i : Nat)) by rw [Int.zero_add]; rfl) h2 e2
theorem imI_enum {es : List Expr} {kk : Nat} {tpos : Pos} (hK : X.K = W.K) {a : Expr} {da : Den} {p pos : Pos} (hg : Gl X "enumerate") (hm : X.mg "enumerate" = none) (hs : noStar a = true) (ha : Im X W E a da) :
    ImI X W E (.Tuple es kk tpos) (.Call (.Name "enumerate" p) [a] [] pos) (Ev.iEnum da) :=
  PIimp (pi_enum hg hm (pa_cons ha pa_nil (starEach_no hs)) (starEach_no hs)) fun σ H R ⟨ρ, δ, M, s, m, p⟩ => ⟨ρ, δ, M, s, m, (Post.bind p).mono fun x H1 ⟨ρ1, d, M1, x1, m1, r1, p1⟩ => by
    split at p1
    · rename_i ds g h1
      obtain ⟨a, rfl, ⟨xs, t, _⟩, k⟩ := seqG_at m1 r1 h1
      rw [hK]
      exact ⟨a, xs, rfl, t, Post.here p1 m1 (wk_enum k)⟩
    · exact False.elim p1⟩
theorem wk_zip {ρ : Rho} {H : Hp} {ds es : List D} {g g' : Gd} {a b : Addr} (h : ∀ ρ' H' M', Ext ρ H ρ' H' → MemAt W ρ' H' M' → gdOk g M' = true → ∃ xs, SqL W.K H' a xs ∧ RepL W ρ' H' ds xs)
    (h' : ∀ ρ' H' M', Ext ρ H ρ' H' → MemAt W ρ' H' M' → gdOk g' M' = true → ∃ xs, SqL W.K H' b xs ∧ RepL W ρ' H' es xs) : Wk W ρ H (zipD ds es, g ++ g') (Itz W.K a b) := by
  intro ρ' H' M' x m hg i
  obtain ⟨xs, t, q⟩ := h ρ' H' M' x m (gdOk_app hg).1
  obtain ⟨ys, t', q'⟩ := h' ρ' H' M' x m (gdOk_app hg).2
  refine ⟨fun d hd => ?_, fun hl => ⟨xs, ys, t, t', ?_⟩⟩
  · obtain ⟨e, f, he, hf, rfl⟩ := zipD_get hd
    obtain ⟨v, h1, h2⟩ := q.get he
    obtain ⟨w, h3, h4⟩ := q'.get hf
    refine ⟨⟨xs, ys, v, w, t, t', h1, h3⟩, fun y H2 ⟨T, z, u, e1, e2, e3, k, k'⟩ => ?_⟩
    subst e1 e3
    have hy := k xs t
    rw [h1] at hy
    cases hy
    have hy := k' ys t'
    rw [h3] at hy
    cases hy
    exact pair_new m h2 h4 e2
  · have l1 := q.length
    have l2 := q'.length
    simp only [zipD_len] at hl
    omega
theorem wk_zipT {ρ : Rho} {H : Hp} {ds es : List D} {xs ys : List V} {a b : Addr} (t : TAt W.K ρ H a xs) (q : RepL W ρ H ds xs) (t' : TAt W.K ρ H b ys) (q' : RepL W ρ H es ys) : Wk W ρ H (zipD ds es, []) (RZ.ItzT W.K a b) := by
  intro ρ' H' M' x m hg i
  have t := (TAt.ext x t).sq
  have q := RepL.ext x _ _ q
  have t' := (TAt.ext x t').sq
  have q' := RepL.ext x _ _ q'
  refine ⟨fun d hd => ?_, fun hl => ⟨xs, ys, t, t', ?_⟩⟩
  · obtain ⟨e, f, he, hf, rfl⟩ := zipD_get hd
    obtain ⟨v, h1, h2⟩ := q.get he
    obtain ⟨w, h3, h4⟩ := q'.get hf
    refine ⟨⟨xs, ys, v, w, t, t', h1, h3⟩, fun y H2 ⟨T, z, u, e1, e2, e3, k, k'⟩ => ?_⟩
    subst e1 e3
    have hy := k xs t
    rw [h1] at hy
    cases hy
    have hy := k' ys t'
    rw [h3] at hy
    cases hy
    exact pair_new m h2 h4 e2
  · have l1 := q.length
    have l2 := q'.length
    simp only [zipD_len] at hl
    omega
theorem imI_zip {es : List Expr} {kk : Nat} {tpos : Pos} (hK : X.K = W.K) {a b : Expr} {da db : Den} {p pos : Pos} (hg : Gl X "zip") (hm : X.mg "zip" = none) (hs : noStar a = true) (hs2 : noStar b = true) (ha : Im X W E a da) (hb : Im X W E b db) :
    ImI X W E (.Tuple es kk tpos) (.Call (.Name "zip" p) [a, b] [] pos) (Ev.iZip da db) :=
  PIimp (RZ.pi_zipA hg hm (pa_cons ha (pa_cons hb pa_nil (starEach_no hs2)) (starEach_no hs)) (starEach_no hs) (stars_no (es := [b]) (by simpa using hs2) _)) fun σ H R ⟨ρ, δ, M, s, m, p⟩ => ⟨ρ, δ, M, s, m, (Post.bind p).mono fun x H1 ⟨ρ1, d, M1, x1, m1, r1, p1⟩ =>
    ⟨ρ1, δ, M1, s.ext x1, m1, (Post.bind p1).mono fun y H2 ⟨ρ2, d2, M2, x2, m2, r2, p2⟩ => by
    have r1 := Rep.ext x2 _ _ r1
    rw [hK]
    split at p2
    · obtain ⟨a, xs, rfl, t, q⟩ := r1
      obtain ⟨b, ys, rfl, t', q'⟩ := r2
      exact ⟨a, b, xs, ys, rfl, .inr ⟨t.sq, t'.sq, Post.here p2 m2 (wk_zipT t q t' q')⟩⟩
    · split at p2
      · rename_i h1 h2
        obtain ⟨a, rfl, ⟨xs, t, _⟩, k⟩ := seqG_at m2 r1 h1
        obtain ⟨b, rfl, ⟨ys, t', _⟩, k'⟩ := seqG_at m2 r2 h2
        exact ⟨a, b, xs, ys, rfl, .inl ⟨t, t', Post.here p2 m2 (wk_zip k k')⟩⟩
      · exact False.elim p2⟩⟩
end
end Ev
set_option Elab.async false
set_option linter.all false
set_option maxRecDepth 100000
set_option maxHeartbeats 2000000
/-! Es10: comprehensions. -/
namespace Ev
open PySem PySem.Spec PyProof.Rows L2
section
variable {W : Wd} {ρ ρ' : Rho} {H H' : Hp} {M : Mem} {D0 : Addr}
/-! ### a hidden list -/
def Rho.hide (ρ : Rho) (a : Addr) : Rho := ⟨ρ.o, a :: ρ.h⟩
def Rho.show (ρ : Rho) (a : Addr) : Rho := ⟨ρ.o, ρ.h.filter fun b => decide (b ≠ a)⟩
theorem ext_hide (m : MemAt W ρ H M) (hD : H D0 = none) (u : HO) : Ext ρ H (ρ.hide D0) (upd H D0 u) where
  len := Nat.le_refl _
  old := fun _ _ => .inl rfl
  frz := fun a o h n => ⟨by rw [upd_ne (ne_of_none h hD)]; exact h, fun z => by
    rcases z with z | z
    · exact n (.inl z)
    · rcases List.mem_cons.mp z with z | z
      · subst z
        rw [hD] at h
        cases h
      · exact n (.inr z)⟩
  hid := fun a h => List.mem_cons_of_mem _ h
  hkp := fun a h => by
    obtain ⟨u, e⟩ := (m.hid a h).1
    exact upd_ne (ne_of_none e hD)
theorem mem_hide (m : MemAt W ρ H M) (hD : H D0 = none) (u : HO) : MemAt W (ρ.hide D0) (upd H D0 u) M where
  len := m.len
  ob := fun n a e => by
    obtain ⟨o, h1, h2⟩ := m.ob n a e
    refine ⟨o, h1, ?_⟩
    obtain ⟨v, hv⟩ := h2.some
    exact h2.ext0 (ext_hide m hD u).toEx0 (upd_ne (ne_of_none hv hD))
  live := m.live
  inj := m.inj
  hid := fun a h => by
    rcases List.mem_cons.mp h with z | z
    · subst z
      exact ⟨⟨u, upd_same⟩, fun q => m.fresh hD (.inl q)⟩
    · obtain ⟨⟨v, e⟩, n⟩ := m.hid a z
      exact ⟨⟨v, by rw [upd_ne (ne_of_none e hD)]; exact e⟩, n⟩
/-- the hidden list changes -/
theorem ex0_put (hD : D0 ∈ ρ.h) (u : HO) : Ex0 ρ H ρ (upd H D0 u) where
  len := Nat.le_refl _
  old := fun _ _ => .inl rfl
  frz := fun a o h n => ⟨by rw [upd_ne (fun z : a = D0 => n (.inr (z ▸ hD)))]; exact h, n⟩
theorem mem_put (m : MemAt W ρ H M) (hD : D0 ∈ ρ.h) (u : HO) : MemAt W ρ (upd H D0 u) M where
  len := m.len
  ob := fun n a e => by
    obtain ⟨o, h1, h2⟩ := m.ob n a e
    refine ⟨o, h1, ?_⟩
    have hn : a ≠ D0 := fun z => (m.hid D0 hD).2 (z ▸ List.mem_of_getElem? e)
    exact h2.ext0 (ex0_put hD u) (upd_ne hn)
  live := m.live
  inj := m.inj
  hid := fun a h => by
    obtain ⟨⟨v, e⟩, n⟩ := m.hid a h
    by_cases z : a = D0
    · subst z
      exact ⟨⟨u, upd_same⟩, n⟩
    · exact ⟨⟨v, by rw [upd_ne z]; exact e⟩, n⟩
theorem ext_put' {ρ1 : Rho} {H1 : Hp} {M1 : Mem} (m1 : MemAt W ρ1 H1 M1) (hn : H1 D0 = none) (x : Ext ρ1 H1 ρ H) (u : HO) : Ext ρ1 H1 ρ (upd H D0 u) where
  len := x.len
  old := x.old
  frz := fun a o h n => by
    obtain ⟨h1, h2⟩ := x.frz a o h n
    exact ⟨by rw [upd_ne (ne_of_none h hn)]; exact h1, h2⟩
  hid := x.hid
  hkp := fun a h => by
    obtain ⟨v, e⟩ := (m1.hid a h).1
    rw [upd_ne (ne_of_none e hn)]
    exact x.hkp a h
/-- it comes to light: first without it -/
def without (H : Hp) (a : Addr) : Hp := fun b => if b = a then none else H b
theorem without_ne {a b : Addr} (h : b ≠ a) : without H a b = H b := if_neg h
theorem without_self {a : Addr} : without H a a = none := if_pos rfl
theorem without_back {a : Addr} {u : HO} (e : H a = some u) : upd (without H a) a u = H := by
  funext b
  by_cases h : b = a
  · subst h
    rw [upd_same, e]
  · rw [upd_ne h, without_ne h]
theorem own_show {a : Addr} (h : Own (ρ.show D0) a) : Own ρ a := by
  rcases h with h | h
  · exact .inl h
  · exact .inr (List.mem_filter.mp h).1
theorem ex0_show (hD : D0 ∈ ρ.h) : Ex0 ρ H (ρ.show D0) (without H D0) where
  len := Nat.le_refl _
  old := fun _ _ => .inl rfl
  frz := fun a o h n => ⟨by rw [without_ne (fun z : a = D0 => n (.inr (z ▸ hD)))]; exact h, fun z => n (own_show z)⟩
theorem mem_show (m : MemAt W ρ H M) (hD : D0 ∈ ρ.h) : MemAt W (ρ.show D0) (without H D0) M where
  len := m.len
  ob := fun n a e => by
    obtain ⟨o, h1, h2⟩ := m.ob n a e
    refine ⟨o, h1, ?_⟩
    have hn : a ≠ D0 := fun z => (m.hid D0 hD).2 (z ▸ List.mem_of_getElem? e)
    exact h2.ext0 (ex0_show hD) (without_ne hn)
  live := m.live
  inj := m.inj
  hid := fun a h => by
    obtain ⟨h1, h2⟩ := List.mem_filter.mp h
    obtain ⟨⟨v, e⟩, n⟩ := m.hid a h1
    exact ⟨⟨v, by rw [without_ne (of_decide_eq_true h2)]; exact e⟩, n⟩
theorem ext_show {ρ1 : Rho} {H1 : Hp} {M1 : Mem} (m1 : MemAt W ρ1 H1 M1) (hn : H1 D0 = none) (x : Ext ρ1 H1 ρ H) : Ext ρ1 H1 (ρ.show D0) (without H D0) where
  len := x.len
  old := x.old
  frz := fun a o h n => by
    obtain ⟨h1, h2⟩ := x.frz a o h n
    exact ⟨by rw [without_ne (ne_of_none h hn)]; exact h1, fun z => h2 (own_show z)⟩
  hid := fun a h => List.mem_filter.mpr ⟨x.hid a h, by
    obtain ⟨v, e⟩ := (m1.hid a h).1
    exact decide_eq_true (ne_of_none e hn)⟩
  hkp := fun a h => by
    obtain ⟨v, e⟩ := (m1.hid a h).1
    rw [without_ne (ne_of_none e hn)]
    exact x.hkp a h
/-- the list is one of the memory's from now on, or is only read -/
theorem end_lst {hint : Bool} {ds : List D} {xs : List V} {ρ1 : Rho} {H1 : Hp} {M1 : Mem} {Q : VK} {E : XK} (m1 : MemAt W ρ1 H1 M1) (hn : H1 D0 = none) (x : Ext ρ1 H1 ρ H) (m : MemAt W ρ H M) (hD : D0 ∈ ρ.h) (e : H D0 = some (.lst xs)) (r : RepL W ρ H ds xs)
    (p : Post W (Rep W) ρ1 H1 (newL hint ds M) Q E) : Q (.ref D0) H := by
  have q := new_lst (mem_show m hD) (RepL.ext0 (ex0_show hD) _ _ r) (Post.ext (ext_show m1 hn x) p) (a := D0) without_self
  rw [without_back e] at q
  exact q
/-! ### the loop -/
variable {X : L2.Cx} {E Eb : XK} {e : Expr}
/-- what is left to do -/
def lcK (hint : Bool) (accD : List D) (r : Res (List D)) : Res D := (noErr r).bind fun ys M => if (accD ++ ys).length ≤ sizeLine then newL hint (accD ++ ys) M else .bad
theorem lcK_cons {hint : Bool} {accD : List D} {y : D} {r : Res (List D)} : lcK hint accD (r.bind fun ys M => .ok (y :: ys) M) = lcK hint (accD ++ [y]) r := by
  cases r with
  | ok ys M => simp only [lcK, noErr, Res.bind, List.append_assoc, List.singleton_append]
  | err _ _ _ => rfl
  | bad => rfl
theorem lc_law {hint : Bool} {vs : List Nat} {src : DenI} {t : Tgt} {dt : DenB} {de : Den} {σ : L2.St} {Q : VK} (hsl : ∀ i ∈ t.sl, i ∈ vs) (h : tI W E (eLc hint vs src t dt de) σ H Q) :
    tLc (tIt W E src) (tG W t) (tT W Eb dt) (tI W Eb de) vs σ H Q := by
  obtain ⟨ρ, δ, M, s, m, p⟩ := h
  refine ⟨ρ, δ, M, s, m, (Post.bind p).mono fun J H1 ⟨ρ1, pr, M1, x1, m1, wk, p1⟩ Dd hD => ?_⟩
  obtain ⟨ds, g⟩ := pr
  have p1 : Post W (Rep W) ρ1 H1 (lcK hint [] (lcGo t dt de g (wipeD δ vs) ds M1)) Q E := p1
  refine ⟨fun i m H => m = ds.length - i ∧ i ≤ ds.length ∧ ∃ ρ' M' accD acc, Ext ρ1 H1 ρ' H ∧ MemAt W ρ' H M' ∧ Dd ∈ ρ'.h ∧ H Dd = some (.lst acc) ∧ RepL W ρ' H accD acc ∧ SRep W ρ' H (wipeD δ vs) (L2.wipe σ vs) ∧
    Post W (Rep W) ρ1 H1 (lcK hint accD (lcGo t dt de g (wipeD δ vs) (ds.drop i) M')) Q E,
    ⟨ds.length, by simp, Nat.zero_le _, ρ1.hide Dd, M1, [], [], ext_hide m1 hD _, mem_hide m1 hD _, List.mem_cons_self, upd_same, rfl, (s.wipe vs).ext (x1.trans (ext_hide m1 hD _)), by rw [List.drop_zero]; exact p1⟩, ?_⟩
  rintro i mm H2 ⟨rfl, hi, ρ', M', accD, acc, x, m', hh, hacc, racc, s', k⟩
  by_cases hlt : i < ds.length
  · refine .inr ?_
    have hdr : ds.drop i = ds[i] :: ds.drop (i + 1) := List.drop_eq_getElem_cons hlt
    rw [hdr] at k
    unfold lcGo at k
    by_cases hg : gdOk g M' = true
    · rw [if_pos hg] at k
      obtain ⟨w1, _⟩ := wk ρ' H2 M' x m' hg i
      obtain ⟨go, yld⟩ := w1 ds[i] (List.getElem?_eq_getElem hlt)
      refine ⟨go, fun H' => ds.length - (i + 1) = ds.length - (i + 1) ∧ i + 1 ≤ ds.length ∧ ∃ ρ' M' accD acc, Ext ρ1 H1 ρ' H' ∧ MemAt W ρ' H' M' ∧ Dd ∈ ρ'.h ∧ H' Dd = some (.lst acc) ∧ RepL W ρ' H' accD acc ∧ SRep W ρ' H' (wipeD δ vs) (L2.wipe σ vs) ∧
        Post W (Rep W) ρ1 H1 (lcK hint accD (lcGo t dt de g (wipeD δ vs) (ds.drop (i + 1)) M')) Q E, fun H' h => ⟨_, by omega, h⟩, fun v H3 y => ?_⟩
      obtain ⟨x3, m3, r3⟩ := yld v H3 y
      cases hset : setT t ds[i] (wipeD δ vs) with
      | none => rw [hset] at k; exact False.elim k
      | some δ' =>
        rw [hset] at k
        have k : Post W (Rep W) ρ1 H1 (lcK hint accD ((dt δ' M').bind fun b M => if b then (de δ' M).bind fun y M => (lcGo t dt de g (wipeD δ vs) (ds.drop (i + 1)) M).bind fun ys M => .ok (y :: ys) M else lcGo t dt de g (wipeD δ vs) (ds.drop (i + 1)) M)) Q E := k
        refine ⟨ρ', wipeD δ vs, M', ds[i], δ', s'.ext x3, m3, r3, hset, fun σ' sσ al => ⟨?_, ?_⟩⟩
        · rw [al.wipe hsl]
          apply List.ext_getElem?
          intro j
          rw [wipe_at, wipe_at, wipe_length]
          by_cases hj : j ∈ vs <;> simp [hj]
        · refine ⟨ρ', δ', M', sσ, m3, ?_⟩
          cases ht : dt δ' M' with
          | bad => rw [ht] at k; exact False.elim k
          | err _ _ _ => rw [ht] at k; exact False.elim k
          | ok b M4 =>
            rw [ht] at k
            intro ρ4 b' H4 x4 m4 eb
            cases eb
            have x34 := x3.trans x4
            cases b with
            | false =>
              rw [if_neg (by decide)]
              exact ⟨rfl, hlt, ρ4, M4, accD, acc, x.trans x34, m4, x34.hid _ hh, by rw [x34.hkp _ hh]; exact hacc, RepL.ext x34 _ _ racc, s'.ext x34, k⟩
            | true =>
              rw [if_pos rfl]
              have k : Post W (Rep W) ρ1 H1 (lcK hint accD ((de δ' M4).bind fun y M => (lcGo t dt de g (wipeD δ vs) (ds.drop (i + 1)) M).bind fun ys M => .ok (y :: ys) M)) Q E := k
              refine ⟨ρ4, δ', M4, sσ.ext x4, m4, ?_⟩
              cases he : de δ' M4 with
              | bad => rw [he] at k; exact False.elim k
              | err _ _ _ => rw [he] at k; exact False.elim k
              | ok z M5 =>
                rw [he] at k
                intro ρ5 w H5 x5 m5 rz
                have k : Post W (Rep W) ρ1 H1 (lcK hint accD ((lcGo t dt de g (wipeD δ vs) (ds.drop (i + 1)) M5).bind fun ys M => .ok (z :: ys) M)) Q E := k
                rw [lcK_cons] at k
                have x35 := x34.trans x5
                have hh5 : Dd ∈ ρ5.h := x35.hid _ hh
                have small : acc.length < sizeLine := by
                  have l := racc.length
                  cases hl : lcGo t dt de g (wipeD δ vs) (ds.drop (i + 1)) M5 with
                  | bad => rw [hl] at k; exact False.elim k
                  | err _ _ _ => rw [hl] at k; exact False.elim k
                  | ok ys M6 =>
                    rw [hl] at k
                    have k : Post W (Rep W) ρ1 H1 (if ((accD ++ [z]) ++ ys).length ≤ sizeLine then newL hint ((accD ++ [z]) ++ ys) M6 else .bad) Q E := k
                    split at k
                    · rename_i q
                      simp only [List.length_append, List.length_cons, List.length_nil] at q
                      omega
                    · exact False.elim k
                have ep := ex0_put (H := H5) hh5 (.lst (acc ++ [w]))
                refine ⟨acc, by rw [x35.hkp _ hh]; exact hacc, small, rfl, hlt, ρ5, M5, accD ++ [z], acc ++ [w], ext_put' m1 hD (x.trans x35) _, mem_put m5 hh5 _, hh5, upd_same, ?_, ?_, k⟩
                · exact RepL.ext0 ep _ _ ((RepL.ext x35 _ _ racc).append (RepL.one rz))
                · have sx := s'.ext x35
                  exact ⟨sx.1, fun j d e => let ⟨v, h, r⟩ := sx.2 j d e; ⟨v, h, Rep.ext0 ep _ _ r⟩⟩
    · rw [if_neg hg] at k
      exact False.elim k
  · have ei : i = ds.length := by omega
    subst ei
    rw [List.drop_length] at k
    unfold lcGo at k
    by_cases hg : gdOk g M' = true
    · rw [if_pos hg] at k
      obtain ⟨_, stop⟩ := wk ρ' H2 M' x m' hg ds.length
      refine .inl ⟨stop (Nat.le_refl _), ?_⟩
      have k : Post W (Rep W) ρ1 H1 (if (accD ++ []).length ≤ sizeLine then newL hint (accD ++ []) M' else .bad) Q E := k
      split at k
      · rw [List.append_nil] at k
        exact end_lst m1 hD x m' hh hacc racc k
      · exact False.elim k
    · rw [if_neg hg] at k
      exact False.elim k
end
end Ev
set_option Elab.async false
set_option linter.all false
set_option maxRecDepth 100000
set_option maxHeartbeats 2000000
/-! Es11: statements. -/
namespace Ev
open PySem PySem.Spec PyProof.Rows L2
section
variable {X : L2.Cx} {W : Wd} {E : XK} {e : Expr} {ρ ρ' : Rho} {H H' : Hp}
/-- what is wanted behind a statement, of what it does -/
def PostS (W : Wd) (ρ : Rho) (H : Hp) (r : Res Fl) (D : Ends) (E : XK) : Prop := match r with
  | .ok (.nx δ) M => ∀ ρ' σ' H', Ext ρ H ρ' H' → MemAt W ρ' H' M → SRep W ρ' H' δ σ' → D.nx σ' H'
  | .ok (.bk δ) M => ∀ ρ' σ' H', Ext ρ H ρ' H' → MemAt W ρ' H' M → SRep W ρ' H' δ σ' → D.bk σ' H'
  | .ok (.ct δ) M => ∀ ρ' σ' H', Ext ρ H ρ' H' → MemAt W ρ' H' M → SRep W ρ' H' δ σ' → D.ct σ' H'
  | .ok (.rt d) M => ∀ ρ' v H', Ext ρ H ρ' H' → MemAt W ρ' H' M → Rep W ρ' H' d v → D.rt v H'
  | .err c fs M => ErrP W ρ H c fs M E
  | .bad => False
theorem PostS.ext {r : Res Fl} {D : Ends} (x : Ext ρ H ρ' H') (h : PostS W ρ H r D E) : PostS W ρ' H' r D E := by
  cases r with
  | ok f M => cases f with
    | nx δ => exact fun ρ2 σ2 H2 y m q => h ρ2 σ2 H2 (x.trans y) m q
    | bk δ => exact fun ρ2 σ2 H2 y m q => h ρ2 σ2 H2 (x.trans y) m q
    | ct δ => exact fun ρ2 σ2 H2 y m q => h ρ2 σ2 H2 (x.trans y) m q
    | rt d => exact fun ρ2 σ2 H2 y m q => h ρ2 σ2 H2 (x.trans y) m q
  | err c fs M => exact fun ρ2 H2 C dd fv y => h ρ2 H2 C dd fv (x.trans y)
  | bad => exact h
def tS (W : Wd) (E : XK) (d : DenS) : TS := fun D σ H => ∃ ρ δ M, SRep W ρ H δ σ ∧ MemAt W ρ H M ∧ PostS W ρ H (d δ M) D E
abbrev ImSt (X : L2.Cx) (W : Wd) (E : XK) (st : Stmt) (d : DenS) : Prop := PS X st (tS W E d)
abbrev ImSts (X : L2.Cx) (W : Wd) (E : XK) (st : List Stmt) (d : DenS) : Prop := PSs X st (tS W E d)
theorem PSimp {st : Stmt} {t t' : TS} (h : PS X st t) (k : ∀ D σ H, t' D σ H → t D σ H) : PS X st t' := ⟨fun pins s σ H D I q => h.run pins s σ H D I (k _ _ _ q)⟩
theorem PSsimp {st : List Stmt} {t t' : TS} (h : PSs X st t) (k : ∀ D σ H, t' D σ H → t D σ H) : PSs X st t' := ⟨fun pins s σ H D I q => h.run pins s σ H D I (k _ _ _ q)⟩
theorem imS_bad {st : Stmt} : ImSt X W E st sBad := ⟨fun pins s σ H D I ⟨_, _, _, _, _, p⟩ => False.elim p⟩
theorem imSs_bad {st : List Stmt} : ImSts X W E st sBad := ⟨fun pins s σ H D I ⟨_, _, _, _, _, p⟩ => False.elim p⟩
/-- behind a value -/
theorem seqS {α β : Type} {rel : Rho → Hp → α → β → Prop} {r : Res α} {f : α → Mem → Res Fl} {D : Ends} {Q : β → Hp → Prop} (p : PostS W ρ H (r.bind f) D E)
    (k : ∀ ρ1 H1 a b M, Ext ρ H ρ1 H1 → MemAt W ρ1 H1 M → rel ρ1 H1 a b → PostS W ρ1 H1 (f a M) D E → Q b H1) : Post W rel ρ H r Q E := by
  cases r with
  | ok a M => exact fun ρ1 b H1 x m q => k ρ1 H1 a b M x m q (PostS.ext x p)
  | err c fs M => exact p
  | bad => exact p
/-- behind a statement -/
theorem seqF {r : Res Fl} {f : Fl → Mem → Res Fl} {D D' : Ends} (p : PostS W ρ H (r.bind f) D E)
    (nx : ∀ ρ1 H1 δ σ M, Ext ρ H ρ1 H1 → MemAt W ρ1 H1 M → SRep W ρ1 H1 δ σ → PostS W ρ1 H1 (f (.nx δ) M) D E → D'.nx σ H1)
    (rt : ∀ ρ1 H1 d v M, Ext ρ H ρ1 H1 → MemAt W ρ1 H1 M → Rep W ρ1 H1 d v → PostS W ρ1 H1 (f (.rt d) M) D E → D'.rt v H1)
    (bk : ∀ ρ1 H1 δ σ M, Ext ρ H ρ1 H1 → MemAt W ρ1 H1 M → SRep W ρ1 H1 δ σ → PostS W ρ1 H1 (f (.bk δ) M) D E → D'.bk σ H1)
    (ct : ∀ ρ1 H1 δ σ M, Ext ρ H ρ1 H1 → MemAt W ρ1 H1 M → SRep W ρ1 H1 δ σ → PostS W ρ1 H1 (f (.ct δ) M) D E → D'.ct σ H1) : PostS W ρ H r D' E := by
  cases r with
  | ok a M =>
    cases a with
    | nx δ => exact fun ρ1 σ H1 x m q => nx ρ1 H1 δ σ M x m q (PostS.ext x p)
    | rt d => exact fun ρ1 v H1 x m q => rt ρ1 H1 d v M x m q (PostS.ext x p)
    | bk δ => exact fun ρ1 σ H1 x m q => bk ρ1 H1 δ σ M x m q (PostS.ext x p)
    | ct δ => exact fun ρ1 σ H1 x m q => ct ρ1 H1 δ σ M x m q (PostS.ext x p)
  | err c fs M => exact p
  | bad => exact p
theorem PostS.nxt {D : Ends} {δ : Slots} {σ : L2.St} {M : Mem} (p : PostS W ρ H (.ok (.nx δ) M) D E) (m : MemAt W ρ H M) (s : SRep W ρ H δ σ) : D.nx σ H := p ρ σ H (Ext.refl _ _) m s
theorem PostS.ret {DE : Ends} {d : D} {v : V} {M : Mem} (p : PostS W ρ H (.ok (.rt d) M) DE E) (m : MemAt W ρ H M) (s : Rep W ρ H d v) : DE.rt v H := p ρ v H (Ext.refl _ _) m s
theorem PostS.brk {D : Ends} {δ : Slots} {σ : L2.St} {M : Mem} (p : PostS W ρ H (.ok (.bk δ) M) D E) (m : MemAt W ρ H M) (s : SRep W ρ H δ σ) : D.bk σ H := p ρ σ H (Ext.refl _ _) m s
theorem PostS.cnt {D : Ends} {δ : Slots} {σ : L2.St} {M : Mem} (p : PostS W ρ H (.ok (.ct δ) M) D E) (m : MemAt W ρ H M) (s : SRep W ρ H δ σ) : D.ct σ H := p ρ σ H (Ext.refl _ _) m s
/-! ### blocks -/
theorem imSs_nil : ImSts X W E [] sNx := PSsimp pss_nil fun D σ H ⟨ρ, δ, M, s, m, p⟩ => PostS.nxt p m s
theorem imSs_one {st : Stmt} {d : DenS} (h : ImSt X W E st d) : ImSts X W E [st] d := pss_one h
theorem imSs_cons {st : Stmt} {r : List Stmt} {a b : DenS} (h : ImSt X W E st a) (h2 : ImSts X W E r b) : ImSts X W E (st :: r) (sSeq a b) :=
  PSsimp (pss_cons h h2) fun D σ H ⟨ρ, δ, M, s, m, p⟩ => ⟨ρ, δ, M, s, m, seqF p (fun ρ1 H1 δ1 σ1 M1 x1 m1 s1 p1 => ⟨ρ1, δ1, M1, s1, m1, p1⟩) (fun ρ1 H1 d v M1 x1 m1 r1 p1 => PostS.ret (DE := D) (E := E) p1 m1 r1)
    (fun ρ1 H1 δ1 σ1 M1 x1 m1 s1 p1 => PostS.brk (D := D) (E := E) p1 m1 s1) fun ρ1 H1 δ1 σ1 M1 x1 m1 s1 p1 => PostS.cnt (D := D) (E := E) p1 m1 s1⟩
/-! ### small statements -/
theorem imS_pass {pos : Pos} : ImSt X W E (.Pass pos) sNx := PSimp ps_pass fun D σ H ⟨ρ, δ, M, s, m, p⟩ => PostS.nxt p m s
theorem imS_break {pos : Pos} : ImSt X W E (.Break pos) sBk := PSimp ps_break fun D σ H ⟨ρ, δ, M, s, m, p⟩ => PostS.brk p m s
theorem imS_continue {pos : Pos} : ImSt X W E (.Continue pos) sCt := PSimp ps_continue fun D σ H ⟨ρ, δ, M, s, m, p⟩ => PostS.cnt p m s
theorem imS_ret {a : Expr} {da : Den} {pos : Pos} (h : Im X W E a da) : ImSt X W E (.Return (some a) pos) (sRet da) :=
  PSimp (ps_ret h) fun D σ H ⟨ρ, δ, M, s, m, p⟩ => ⟨ρ, δ, M, s, m, seqS p fun ρ1 H1 a b M1 x1 m1 r1 p1 => PostS.ret p1 m1 r1⟩
theorem imS_retN {pos : Pos} : ImSt X W E (.Return none pos) (sRet (eC .non)) := PSimp ps_retN fun D σ H ⟨ρ, δ, M, s, m, p⟩ => PostS.ret (v := V.non) (d := .non) p m rfl
theorem swaps_no {e : Expr} {t : Option Expr} {l : Nat} {env : Env} (h : notComp e = true) : swapsWith e t l env = pure false := by
  cases e <;> first | rfl | cases h
theorem imS_drop {a : Expr} {da : Den} {pos : Pos} (hn : notComp a = true) (h : Im X W E a da) : ImSt X W E (.Expr a pos) (sDrop da) :=
  PSimp (ps_expr h (swaps_no hn)) fun D σ H ⟨ρ, δ, M, s, m, p⟩ => ⟨ρ, δ, M, s, m, seqS p fun ρ1 H1 a b M1 x1 m1 r1 p1 => PostS.nxt p1 m1 (s.ext x1)⟩
theorem imS_if {c : Expr} {a b : List Stmt} {t : DenB} {da db : DenS} {pos : Pos} (hc : ImT X W E c t) (ha : ImSts X W E a da) (hb : ImSts X W E b db) : ImSt X W E (.If c a b pos) (sIf t da db) :=
  PSimp (ps_if hc ha hb) fun D σ H ⟨ρ, δ, M, s, m, p⟩ => ⟨ρ, δ, M, s, m, seqS p fun ρ1 H1 k k' M1 x1 m1 r1 p1 => by
    have e : k = k' := r1
    subst e
    cases k with
    | true => rw [if_pos rfl] at p1 ⊢; exact ⟨ρ1, δ, M1, s.ext x1, m1, p1⟩
    | false => rw [if_neg (by decide)] at p1 ⊢; exact ⟨ρ1, δ, M1, s.ext x1, m1, p1⟩⟩
/-! ### stores -/
theorem as_law {t : Tgt} {da : Den} {D : Ends} {σ : L2.St} (h : tS W E (sSet t da) D σ H) : tAsg (tI W E da) (tG W t) D σ H := by
  obtain ⟨ρ, δ, M, s, m, p⟩ := h
  refine ⟨ρ, δ, M, s, m, seqS p fun ρ1 H1 a b M1 x1 m1 r1 p1 => ?_⟩
  split at p1
  · rename_i δ' hs
    exact ⟨ρ1, δ, M1, a, δ', s.ext x1, m1, r1, hs, fun σ' s' _ => PostS.nxt p1 m1 s'⟩
  · exact False.elim p1
theorem assignEach1 {tg : Expr} {env : Env} (h : noStar tg = true) : (assignEach [tg] env).map (·.2) = [assign tg env] := by
  rw [assignEach_no h]
  rfl
/-- tg = a, in the plain order -/
theorem imS_asg {tg a : Expr} {t : Tgt} {da : Den} {pos : Pos} (hg : PG X tg (tG W t)) (hn : noStar tg = true) (h : Im X W E a da) (hs : swapsWithSole [tg] a pos.line X.env = pure false) (hw : swappedStores [tg] a X.env = pure none) : ImSt X W E (.Assign [tg] a pos) (sSet t da) :=
  PSimp (ps_asg h hg hs hw (assignEach1 hn)) fun D σ H h => as_law h
/-- a, b = e1, e2 -/
theorem imS_par (hc : X.calm = true) (hN : X.N.Nodup) {i j : Nat} {x y : Str} {a b : Expr} {da db : Den} {px py pt pos : Pos} {kt k2 pt2} (hi : X.N[i]? = some x) (hj : X.N[j]? = some y) (hij : i ≠ j)
    (hx : X.env.scope.names.lookup x = some .local) (hy : X.env.scope.names.lookup y = some .local) (ha : Im X W E a da) (hb : Im X W E b db) (na : noStar a = true) (nb : noStar b = true)
    (hw : swappedStores [.Tuple [.Name x px, .Name y py] kt pt] (.Tuple [a, b] k2 pt2) X.env = pure (some [x, y])) :
    ImSt X W E (.Assign [.Tuple [.Name x px, .Name y py] kt pt] (.Tuple [a, b] k2 pt2) pos) (sPar i j da db) :=
  PSimp (ps_par hc hN hi hj hij hx hy (pa_cons ha (pa_cons hb pa_nil (starEach_no nb)) (starEach_no na)) hw rfl) fun D σ H ⟨ρ, δ, M, s, m, p⟩ =>
    ⟨ρ, δ, M, s, m, seqS p fun ρ1 H1 a v M1 x1 m1 r1 p1 => ⟨ρ1, δ, M1, s.ext x1, m1, seqS p1 fun ρ2 H2 b w M2 x2 m2 r2 p2 =>
      ⟨v, w, rfl, PostS.nxt p2 m2 (((s.ext (x1.trans x2)).set (Rep.ext x2 _ _ r1) i).set r2 j)⟩⟩⟩
/-- o[i] = a -/
theorem f_set {o i v : D} {vo vi vv : V} {M M' : Mem} {Q : Hp → Prop} (m : MemAt W ρ H M) (ro : Rep W ρ H o vo) (ri : Rep W ρ H i vi) (rv : Rep W ρ H v vv) (e : setIx o i v M = some M') (k : ∀ H', Ext ρ H ρ H' → MemAt W ρ H' M' → Q H') : rSetL vo vi vv H Q ∨ rSetK W vo vi vv H Q := by
  cases o with
  | ref n =>
    obtain ⟨ob, h1, rfl⟩ := Option.map_eq_some_iff.mp (show (setObj M[n]? i v).map (fun ob => M.set n ob) = some M' from e)
    unfold setObj at h1
    split at h1
    · rename_i xs kk ho
      split at h1
      · rename_i j hj
        cases h1
        obtain ⟨a, ys, ha, hH, r⟩ := m.lst ho
        have ev : vo = .ref a := ro.2 a ha
        subst ev
        exact .inl ⟨a, ys, kk, j, rfl, ri, hH, by rw [← r.length]; exact hj, k _ (ext_put m (List.mem_of_getElem? ha)) (m.put ha (RepL.set rv j r))⟩
      · cases h1
    · rename_i kvs hn ho
      split at h1
      · rename_i hk
        cases h1
        simp only [Bool.and_eq_true, decide_eq_true_eq] at hk
        exact .inr ⟨ρ, M, _, n, _, v, m, ri, ro, rv, ho, hk.1, hk.2, k⟩
      · cases h1
    · cases h1
  | _ => cases e
theorem PSet.or {t t' : TSet} (h : PSet X t) (h' : PSet X t') : PSet X (fun o i v H Q => t o i v H Q ∨ t' o i v H Q) := by
  intro pins s σ H o i v ov iv u Q I ro ri rv q
  rcases q with q | q
  · exact h pins s σ H o i v ov iv u Q I ro ri rv q
  · exact h' pins s σ H o i v ov iv u Q I ro ri rv q
theorem assign_sub {o i : Expr} {pos : Pos} {env : Env} {v : Value} (h : notSlice i = true) : assign (.Subscript o i pos) env v = (do
      let ov ← holding [v] (eval o env)
      let iv ← holding [v, ov] (eval i env)
      standAt pos
      holding [v, ov, iv] (setItem ov iv v)
      release [v, ov, iv] []) := by
  cases i <;> first | rfl | cases h
theorem imS_setIx (sm : Same X W) (hu : X.A.units + 65 < cLine) {o i a : Expr} {do' di da : Den} {pos p2 : Pos} (hi' : notSlice i = true) (ho : Im X W E o do') (hi : Im X W E i di) (ha : Im X W E a da) : ImSt X W E (.Assign [.Subscript o i p2] a pos) (sSetIx do' di da) := by
  have hs : swapsWithSole [.Subscript o i p2] a pos.line X.env = pure false := by
    unfold swapsWithSole
    cases a <;> rfl
  have hw : swappedStores [.Subscript o i p2] a X.env = pure none := rfl
  refine PSimp (ps_asg ha (pg_sub ho hi (PSet.or set_list (set_K sm hu)) fun v => assign_sub hi') hs hw (assignEach1 rfl)) fun D σ H ⟨ρ, δ, M, s, m, p⟩ =>
    ⟨ρ, δ, M, s, m, seqS p fun ρ1 H1 v vv M1 x1 m1 r1 p1 => ⟨ρ1, δ, M1, s.ext x1, m1, seqS p1 fun ρ2 H2 o vo M2 x2 m2 r2 p2 => ⟨ρ2, δ, M2, s.ext (x1.trans x2), m2, seqS p2 fun ρ3 H3 i vi M3 x3 m3 r3 p3 => ?_⟩⟩⟩
  split at p3
  · rename_i M4 h4
    exact f_set m3 (Rep.ext x3 _ _ r2) r3 (Rep.ext (x2.trans x3) _ _ r1) h4 fun H4 x4 m4 => PostS.nxt (PostS.ext x4 p3) m4 (s.ext (((x1.trans x2).trans x3).trans x4))
  · exact False.elim p3
/-! ### loops -/
theorem imS_for {tg it : Expr} {t : Tgt} {src : DenI} {body : List Stmt} {db : DenS} {pos : Pos} (hp : PassesOwn (model X.prog X.w) X.A X.env X.xe) (hc : X.calm = true) (hi : ImI X W E tg it src) (hg : PG X tg (tG W t)) (hb : ImSts X W E body db)
    (hs : ∀ x, foldedSetIterable it X.env x = pure x) : ImSt X W E (.For tg it body [] pos) (sFor src t db) :=
  PSimp (ps_for hp hc hi hg hb hs) fun D σ H ⟨ρ, δ, M, s, m, p⟩ => ⟨ρ, δ, M, s, m, seqS p fun ρ1 H1 pr J M1 x1 m1 wk p1 => by
    obtain ⟨ds, g⟩ := pr
    refine ⟨fun i mm σ' H' => mm = ds.length - i ∧ i ≤ ds.length ∧ ∃ ρ' δ' M', Ext ρ1 H1 ρ' H' ∧ MemAt W ρ' H' M' ∧ SRep W ρ' H' δ' σ' ∧ PostS W ρ' H' (forGo t db g (ds.drop i) δ' M') D E,
      ⟨ds.length, by simp, Nat.zero_le _, ρ1, δ, M1, Ext.refl _ _, m1, s.ext x1, by rw [List.drop_zero]; exact p1⟩, ?_⟩
    rintro i mm σ2 H2 ⟨rfl, hi, ρ2, δ2, M2, x2, m2, s2, k⟩
    by_cases hlt : i < ds.length
    · rw [List.drop_eq_getElem_cons hlt] at k
      unfold forGo at k
      by_cases hgd : gdOk g M2 = true
      · rw [if_pos hgd] at k
        obtain ⟨w1, _⟩ := wk ρ2 H2 M2 x2 m2 hgd i
        obtain ⟨go, yld⟩ := w1 ds[i] (List.getElem?_eq_getElem hlt)
        refine .inr ⟨go, fun σ' H' => i + 1 ≤ ds.length ∧ ∃ ρ' δ' M', Ext ρ1 H1 ρ' H' ∧ MemAt W ρ' H' M' ∧ SRep W ρ' H' δ' σ' ∧ PostS W ρ' H' (forGo t db g (ds.drop (i + 1)) δ' M') D E, fun σ' H' h => ⟨ds.length - (i + 1), by omega, rfl, h⟩, fun v H3 y => ?_⟩
        obtain ⟨x3, m3, r3⟩ := yld v H3 y
        split at k
        · rename_i δ3 hset
          refine ⟨ρ2, δ2, M2, ds[i], δ3, s2.ext x3, m3, r3, hset, fun σ3 s3 _ => ⟨ρ2, δ3, M2, s3, m3, ?_⟩⟩
          have k := PostS.ext x3 k
          exact seqF k (fun ρ4 H4 δ4 σ4 M4 x4 m4 s4 p4 => ⟨hlt, ρ4, δ4, M4, (x2.trans x3).trans x4, m4, s4, p4⟩) (fun ρ4 H4 d v M4 x4 m4 r4 p4 => PostS.ret (DE := D) (E := E) p4 m4 r4) (fun ρ4 H4 δ4 σ4 M4 x4 m4 s4 p4 => PostS.nxt (D := D) (E := E) p4 m4 s4)
            fun ρ4 H4 δ4 σ4 M4 x4 m4 s4 p4 => ⟨hlt, ρ4, δ4, M4, (x2.trans x3).trans x4, m4, s4, p4⟩
        · exact False.elim k
      · rw [if_neg hgd] at k
        exact False.elim k
    · have ei : i = ds.length := by omega
      subst ei
      rw [List.drop_length] at k
      unfold forGo at k
      by_cases hgd : gdOk g M2 = true
      · rw [if_pos hgd] at k
        obtain ⟨_, stop⟩ := wk ρ2 H2 M2 x2 m2 hgd ds.length
        exact .inl ⟨stop (Nat.le_refl _), PostS.nxt k m2 s2⟩
      · rw [if_neg hgd] at k
        exact False.elim k⟩
theorem imS_while {c : Expr} {t : DenB} {body : List Stmt} {db : DenS} {n : Nat} {pos : Pos} (hp : PassesOwn (model X.prog X.w) X.A X.env X.xe) (hc : ImT X W E c t) (hb : ImSts X W E body db) : ImSt X W E (.While c body [] pos) (whileGo t db n) :=
  PSimp (ps_while hp hc hb) fun D σ H ⟨ρ, δ, M, s, m, p⟩ => by
    refine ⟨fun n σ' H' => ∃ ρ' δ' M', SRep W ρ' H' δ' σ' ∧ MemAt W ρ' H' M' ∧ PostS W ρ' H' (whileGo t db n δ' M') D E, ⟨n, ρ, δ, M, s, m, p⟩, ?_⟩
    rintro n σ1 H1 ⟨ρ1, δ1, M1, s1, m1, p1⟩
    cases n with
    | zero => exact False.elim p1
    | succ n =>
      unfold whileGo at p1
      refine ⟨ρ1, δ1, M1, s1, m1, seqS p1 fun ρ2 H2 k k' M2 x2 m2 r2 p2 => ?_⟩
      have e : k = k' := r2
      subst e
      cases k with
      | true =>
        rw [if_pos rfl] at p2 ⊢
        refine ⟨fun σ' H' => ∃ ρ' δ' M', SRep W ρ' H' δ' σ' ∧ MemAt W ρ' H' M' ∧ PostS W ρ' H' (whileGo t db n δ' M') D E, fun σ' H' h => ⟨n, Nat.lt_succ_self _, h⟩, ρ2, δ1, M2, s1.ext x2, m2, ?_⟩
        exact seqF p2 (fun ρ4 H4 δ4 σ4 M4 x4 m4 s4 p4 => ⟨ρ4, δ4, M4, s4, m4, p4⟩) (fun ρ4 H4 d v M4 x4 m4 r4 p4 => PostS.ret (DE := D) (E := E) p4 m4 r4) (fun ρ4 H4 δ4 σ4 M4 x4 m4 s4 p4 => PostS.nxt (D := D) (E := E) p4 m4 s4)
          fun ρ4 H4 δ4 σ4 M4 x4 m4 s4 p4 => ⟨ρ4, δ4, M4, s4, m4, p4⟩
      | false =>
        rw [if_neg (by decide)] at p2 ⊢
        exact PostS.nxt p2 m2 (s1.ext x2)
end
end Ev
set_option Elab.async false
set_option linter.all false
set_option maxRecDepth 100000
set_option maxHeartbeats 2000000
/-! Es12: a call's arguments by the parameters. -/
namespace Ev
open PySem PySem.Spec PyProof.Rows L2
section
variable {α : Type}
def dOf (l : List (Str × Option α)) : List (Str × α) := l.filterMap fun p => p.2.map fun d => (p.1, d)
/-- the value of a name -/
def vOf (ns : List Str) (vs : List α) (kw dl : List (Str × α)) (n : Str) : Option α := ((ns.zip vs).lookup n).or ((kw.lookup n).or (dl.lookup n))
theorem look_ne {l : List (Str × α)} {p n : Str} {v : α} (h : n ≠ p) : ((p, v) :: l).lookup n = l.lookup n := by
  rw [List.lookup_cons]
  have : (n == p) = false := by simpa using h
  rw [this]
theorem look_eq {l : List (Str × α)} {p : Str} {v : α} : ((p, v) :: l).lookup p = some v := by
  rw [List.lookup_cons]
  have : (p == p) = true := by simp
  rw [this]
theorem dOf_ne {l : List (Str × Option α)} {p n : Str} {o : Option α} (h : n ≠ p) : (dOf ((p, o) :: l)).lookup n = (dOf l).lookup n := by
  cases o with
  | none => rfl
  | some d => exact look_ne h
theorem fm_congr {β γ : Type} {f g : β → Option γ} : ∀ {l : List β}, (∀ n ∈ l, f n = g n) → l.filterMap f = l.filterMap g
  | [], _ => rfl
  | a :: l, h => by
    have e := h a (by simp)
    have ih := fm_congr (l := l) fun n hn => h n (List.mem_cons_of_mem _ hn)
    rw [List.filterMap_cons, List.filterMap_cons, e, ih]
theorem arr_ok : ∀ {l : List (Str × Option α)} {vs : List α} {kw : List (Str × α)} {all : List α}, (l.map (·.1)).Nodup → arrGo l vs kw = some all →
    vs.length ≤ l.length ∧ all.length = l.length ∧ ((l.map (·.1)).filterMap fun n => (vOf (l.map (·.1)) vs kw (dOf l) n).map fun v => (n, v)) = (l.map (·.1)).zip all ∧ (∀ k, (((l.map (·.1)).zip vs).lookup k).isSome = true → kw.lookup k = none) ∧
    ∀ p ∈ l, p.2 = none → (((l.map (·.1)).zip vs).lookup p.1).isSome = true ∨ (kw.lookup p.1).isSome = true
  | [], [], kw, all, _, h => by
    cases h
    exact ⟨Nat.le_refl _, rfl, rfl, fun k hk => by simp at hk, fun p hp => by cases hp⟩
  | [], v :: vs, kw, all, _, h => by cases h
  | (p, o) :: l, v :: vs, kw, all, nd, h => by
    have h : (if (kw.lookup p).isSome then none else (arrGo l vs kw).map (v :: ·)) = some all := h
    split at h
    · cases h
    · rename_i hk
      obtain ⟨r, h1, rfl⟩ := Option.map_eq_some_iff.mp h
      obtain ⟨np, nd'⟩ := List.nodup_cons.mp (show (p :: l.map (·.1)).Nodup from nd)
      obtain ⟨i1, i2, i3, i4, i5⟩ := arr_ok nd' h1
      have hk' : kw.lookup p = none := by
        cases hq : kw.lookup p with
        | none => rfl
        | some v => rw [hq] at hk; exact absurd rfl hk
      refine ⟨by simpa using i1, by simp [i2], ?_, fun k hk2 => ?_, fun q hq e => ?_⟩
      · show List.filterMap _ (p :: l.map (·.1)) = (p, v) :: (l.map (·.1)).zip r
        rw [List.filterMap_cons]
        have e1 : vOf (((p, o) :: l).map (·.1)) (v :: vs) kw (dOf ((p, o) :: l)) p = some v := by
          show (((p, v) :: (l.map (·.1)).zip vs).lookup p).or _ = some v
          rw [look_eq]
          rfl
        rw [e1]
        show (p, v) :: _ = _
        rw [← i3]
        congr 1
        refine fm_congr fun n hn => ?_
        have hne : n ≠ p := fun z => np (z ▸ hn)
        have e2 : vOf (((p, o) :: l).map (·.1)) (v :: vs) kw (dOf ((p, o) :: l)) n = vOf (l.map (·.1)) vs kw (dOf l) n := by
          show (((p, v) :: (l.map (·.1)).zip vs).lookup n).or ((kw.lookup n).or ((dOf ((p, o) :: l)).lookup n)) = _
          rw [look_ne hne, dOf_ne hne]
          rfl
        rw [e2]
      · by_cases z : k = p
        · rw [z]; exact hk'
        · exact i4 k (by rw [show (((p, o) :: l).map (·.1)).zip (v :: vs) = (p, v) :: (l.map (·.1)).zip vs from rfl, look_ne z] at hk2; exact hk2)
      · rcases List.mem_cons.mp hq with z | z
        · subst z
          exact .inl (by show (((p, v) :: (l.map (·.1)).zip vs).lookup p).isSome = true; rw [look_eq]; rfl)
        · have hne : q.1 ≠ p := fun y => np (y ▸ List.mem_map_of_mem z)
          rcases i5 q z e with y | y
          · exact .inl (by show (((p, v) :: (l.map (·.1)).zip vs).lookup q.1).isSome = true; rw [look_ne hne]; exact y)
          · exact .inr y
  | (p, o) :: l, [], kw, all, nd, h => by
    obtain ⟨np, nd'⟩ := List.nodup_cons.mp (show (p :: l.map (·.1)).Nodup from nd)
    have key : ∀ v r, arrGo l [] kw = some r → ((kw.lookup p).or ((dOf ((p, o) :: l)).lookup p)) = some v → all = v :: r → (o = none → (kw.lookup p).isSome = true) →
        ([] : List α).length ≤ ((p, o) :: l).length ∧ all.length = ((p, o) :: l).length ∧ ((((p, o) :: l).map (·.1)).filterMap fun n => (vOf (((p, o) :: l).map (·.1)) [] kw (dOf ((p, o) :: l)) n).map fun v => (n, v)) = (((p, o) :: l).map (·.1)).zip all ∧
        (∀ k, (((((p, o) :: l).map (·.1)).zip ([] : List α)).lookup k).isSome = true → kw.lookup k = none) ∧ ∀ q ∈ (p, o) :: l, q.2 = none → (((((p, o) :: l).map (·.1)).zip ([] : List α)).lookup q.1).isSome = true ∨ (kw.lookup q.1).isSome = true := fun v r h1 h2 h3 h4 => by
      subst h3
      obtain ⟨i1, i2, i3, i4, i5⟩ := arr_ok nd' h1
      refine ⟨Nat.zero_le _, by simp [i2], ?_, fun k hk2 => by simp at hk2, fun q hq e => .inr ?_⟩
      · show List.filterMap _ (p :: l.map (·.1)) = (p, v) :: (l.map (·.1)).zip r
        rw [List.filterMap_cons]
        have e1 : vOf (((p, o) :: l).map (·.1)) [] kw (dOf ((p, o) :: l)) p = some v := h2
        rw [e1]
        show (p, v) :: _ = _
        rw [← i3]
        congr 1
        refine fm_congr fun n hn => ?_
        have hne : n ≠ p := fun z => np (z ▸ hn)
        have e2 : vOf (((p, o) :: l).map (·.1)) [] kw (dOf ((p, o) :: l)) n = vOf (l.map (·.1)) [] kw (dOf l) n := by
          show ((kw.lookup n).or ((dOf ((p, o) :: l)).lookup n)) = (((l.map (·.1)).zip ([] : List α)).lookup n).or _
          rw [dOf_ne hne, List.zip_nil_right]
          rfl
        rw [e2]
      · rcases List.mem_cons.mp hq with z | z
        · subst z
          exact h4 e
        · rcases i5 q z e with y | y
          · rw [List.zip_nil_right] at y; cases y
          · exact y
    have h : (match kw.lookup p with
      | some v => (arrGo l [] kw).map (v :: ·)
      | none => (match o with
        | some d => (arrGo l [] kw).map (d :: ·)
        | none => none)) = some all := h
    split at h
    · rename_i v hv
      obtain ⟨r, h1, h2⟩ := Option.map_eq_some_iff.mp h
      exact key v r h1 (by rw [hv]; rfl) h2.symm fun _ => by rw [hv]; rfl
    · rename_i hv
      split at h
      · obtain ⟨r, h1, h2⟩ := Option.map_eq_some_iff.mp h
        refine key _ r h1 ?_ h2.symm fun z => by cases z
        rw [hv]
        exact look_eq
      · cases h
/-! ### the binder -/
/-- the keywords are parameters, none twice -/
def Fresh (names : List Str) : List (Str × α) → List (Str × α) → Prop
  | _, [] => True
  | sl, kv :: r => names.contains kv.1 = true ∧ sl.lookup kv.1 = none ∧ Fresh names (sl ++ [kv]) r
theorem loop_kw {names : List Str} {body : Str × α → List (Str × α) × List (Str × α) → Sem (ForInStep (List (Str × α) × List (Str × α)))} (hb : ∀ kv sl, names.contains kv.1 = true → sl.lookup kv.1 = none → body kv (sl, []) = pure (.yield (sl ++ [kv], []))) :
    ∀ (kw sl : List (Str × α)), Fresh names sl kw → forIn kw (sl, ([] : List (Str × α))) body = pure (sl ++ kw, [])
  | [], sl, _ => by rw [List.forIn_nil, List.append_nil]
  | kv :: r, sl, h => by
    obtain ⟨h1, h2, h3⟩ := h
    rw [List.forIn_cons, hb kv sl h1 h2]
    have ih := loop_kw hb r (sl ++ [kv]) h3
    rw [List.append_assoc] at ih
    exact ih
/-- the defaults fill up -/
def fill : List (Str × α) → List (Str × α) → List (Str × α)
  | sl, [] => sl
  | sl, q :: r => fill (if (sl.lookup q.1).isNone = true then sl ++ [(q.1, q.2)] else sl) r
theorem loop_fill {body : Str × α → List (Str × α) → Sem (ForInStep (List (Str × α)))} (hb : ∀ q sl, body q sl = if (sl.lookup q.1).isNone = true then pure (.yield (sl ++ [(q.1, q.2)])) else pure (.yield sl)) : ∀ (xs sl : List (Str × α)), forIn xs sl body = pure (fill sl xs)
  | [], sl => by rw [List.forIn_nil]; rfl
  | q :: r, sl => by
    rw [List.forIn_cons, hb]
    unfold fill
    split
    · exact loop_fill hb r _
    · exact loop_fill hb r _
theorem fill_look (n : Str) : ∀ (xs sl : List (Str × α)), (fill sl xs).lookup n = (sl.lookup n).or (xs.lookup n)
  | [], sl => by simp [fill]
  | q :: r, sl => by
    unfold fill
    rw [fill_look n r]
    obtain ⟨p, v⟩ := q
    by_cases hn : n = p
    · subst hn
      rw [look_eq]
      cases hs : sl.lookup n with
      | none =>
        rw [if_pos (by simp), List.lookup_append, hs]
        show ((([(n, v)] : List (Str × α)).lookup n)).or _ = some v
        rw [look_eq]
        rfl
      | some u =>
        rw [if_neg (by simp), hs]
        rfl
    · rw [look_ne hn]
      split
      · rw [List.lookup_append]
        have : ([(p, v)] : List (Str × α)).lookup n = none := look_ne hn
        rw [this]
        simp
      · rfl
theorem fresh_of {names : List Str} : ∀ {kw sl : List (Str × α)}, (∀ kv ∈ kw, names.contains kv.1 = true) → (kw.map (·.1)).Nodup → (∀ kv ∈ kw, sl.lookup kv.1 = none) → Fresh names sl kw
  | [], _, _, _, _ => trivial
  | kv :: r, sl, h1, h2, h3 => by
    obtain ⟨n1, n2⟩ := List.nodup_cons.mp (show (kv.1 :: r.map (·.1)).Nodup from h2)
    refine ⟨h1 kv (by simp), h3 kv (by simp), fresh_of (fun q hq => h1 q (List.mem_cons_of_mem _ hq)) n2 fun q hq => ?_⟩
    rw [List.lookup_append, h3 q (List.mem_cons_of_mem _ hq)]
    have hne : q.1 ≠ kv.1 := fun z => n1 (z ▸ List.mem_map_of_mem hq)
    obtain ⟨k, v⟩ := kv
    show (([(k, v)] : List (Str × α)).lookup q.1) = none
    exact look_ne hne
theorem names_dfl (ps : List Str) (its : List α) (h : its.length ≤ ps.length) : (withDfl ps its).map (·.1) = ps := by
  unfold withDfl
  rw [List.map_fst_zip]
  simp
  omega
theorem dOf_zip_none : ∀ (ps : List Str), dOf (ps.zip (List.replicate ps.length (none : Option α))) = []
  | [] => rfl
  | p :: ps => by
    show dOf ((p, none) :: ps.zip (List.replicate ps.length none)) = []
    exact dOf_zip_none ps
theorem dOf_zip_some : ∀ (ps : List Str) (its : List α), dOf (ps.zip (its.map some)) = ps.zip its
  | [], _ => rfl
  | _ :: _, [] => rfl
  | p :: ps, d :: its => by
    show (p, d) :: dOf (ps.zip (its.map some)) = (p, d) :: ps.zip its
    rw [dOf_zip_some ps its]
theorem dOf_dfl (ps : List Str) (its : List α) (h : its.length ≤ ps.length) : dOf (withDfl ps its) = (ps.drop (ps.length - its.length)).zip its := by
  unfold withDfl
  have e : ps = ps.take (ps.length - its.length) ++ ps.drop (ps.length - its.length) := (List.take_append_drop _ _).symm
  have l : (ps.take (ps.length - its.length)).length = (List.replicate (ps.length - its.length) (none : Option α)).length := by simp
  conv => lhs; rw [e]
  rw [show (ps.take (ps.length - its.length) ++ ps.drop (ps.length - its.length)).length = ps.length from by rw [← e]]
  rw [List.zip_append l]
  unfold dOf
  rw [List.filterMap_append]
  have e1 := dOf_zip_none (α := α) (ps.take (ps.length - its.length))
  have e2 := dOf_zip_some (ps.drop (ps.length - its.length)) its
  unfold dOf at e1 e2
  rw [e2]
  have e3 : (ps.take (ps.length - its.length)).length = ps.length - its.length := by simp
  rw [e3] at e1
  rw [e1]
  rfl
theorem none_dfl {ps : List Str} {its : List α} {n : Str} (hn : n ∈ ps.take (ps.length - its.length)) : (n, none) ∈ withDfl ps its := by
  unfold withDfl
  obtain ⟨i, hi, e⟩ := List.mem_iff_getElem.mp hn
  have hi1 : i < ps.length - its.length := by rw [List.length_take] at hi; omega
  have hi2 : i < ps.length := by omega
  rw [List.getElem_take] at e
  refine List.mem_iff_getElem.mpr ⟨i, ?_, ?_⟩
  · rw [List.length_zip, List.length_append, List.length_replicate, List.length_map]
    omega
  · rw [List.getElem_zip, e, List.getElem_append_left (by simpa using hi1), List.getElem_replicate]
theorem bind_ok {fd : FuncData} {args : List Arg} {ps : List Str} {d1 : List (Option Expr)} {d2 : List Expr} (hp : fd.params = ⟨[], args, none, [], d1, none, d2⟩) (hps : args.map (·.arg) = ps) (nd : ps.Nodup) {us its all : List Value} {kw : List (Str × Value)} (hl : its.length ≤ ps.length)
    (ha : arrGo (withDfl ps its) us kw = some all) (hin : ∀ kv ∈ kw, ps.contains kv.1 = true) (hnd : (kw.map (·.1)).Nodup) :
    ∃ k, bindArgs fd ⟨us, kw⟩ = seqItems? fd.defaults >>= k ∧ ∀ o, (o.getD #[]).toList = its → k o = pure (ps.zip all) := by
  have en := names_dfl ps its hl
  have ed := dOf_dfl ps its hl
  obtain ⟨h1, h2, h3, h4, h5⟩ := arr_ok (by rw [en]; exact nd) ha
  rw [en, ed] at h3
  rw [en] at h4 h5
  have l0 : (withDfl ps its).length = ps.length := by rw [← List.length_map (f := (·.1)), en]
  rw [l0] at h1
  have fr : Fresh ps (ps.zip us) kw := fresh_of hin hnd fun kv hkv => by
    cases hq : (ps.zip us).lookup kv.1 with
    | none => rfl
    | some v =>
      have e := h4 kv.1 (by rw [hq]; rfl)
      exact absurd (List.lookup_eq_none_iff.mp e kv hkv) (by simp)
  unfold bindArgs
  simp only [hp, hps, List.map_nil, List.nil_append, List.append_nil, Option.isSome_none, Option.isNone_none, Bool.or_false, Bool.and_true]
  rw [loop_kw (names := ps) (fun kv sl c1 c2 => by
    obtain ⟨k, v⟩ := kv
    have c1' : (ps.contains k || ([] : List Str).contains k) = true := by rw [show ps.contains k = true from c1]; rfl
    simp only at c2 ⊢
    rw [if_pos c1', if_neg (by rw [c2]; simp)]) kw _ fr]
  refine ⟨_, pure_bind _ _, fun o ho => ?_⟩
  simp only [ho]
  have hle : ¬ (us.length > ps.length) := by omega
  have e1 : its.length - ps.length = 0 := by omega
  simp only [hle, decide_false, Bool.false_eq_true, if_false, e1, List.drop_zero]
  have miss : ((ps.take (ps.length - its.length)).filter fun n => ((ps.zip us ++ kw).lookup n).isNone) = [] := by
    rw [List.filter_eq_nil_iff]
    intro n hn
    rw [List.lookup_append]
    have q := h5 (n, none) (none_dfl hn) rfl
    simp only at q
    cases h6 : (ps.zip us).lookup n with
    | some v => simp
    | none =>
      cases h7 : kw.lookup n with
      | some v => simp
      | none =>
        rw [h6, h7] at q
        rcases q with q | q <;> cases q
  rw [miss]
  simp only [List.isEmpty_nil, Bool.not_true, Bool.false_eq_true, if_false]
  rw [loop_fill (fun q sl => by rfl)]
  rw [pure_bind]
  simp only [List.forIn_nil, pure_bind, List.isEmpty_nil, Bool.not_true, Bool.false_eq_true, if_false]
  congr 1
  rw [← h3]
  refine fm_congr fun n _ => ?_
  rw [fill_look, List.lookup_append, Option.or_assoc]
  rfl
/-! ### related lists -/
def AllR {β γ : Type} (R : β → γ → Prop) : List β → List γ → Prop
  | [], [] => True
  | a :: r, b :: s => R a b ∧ AllR R r s
  | _, _ => False
section
variable {β γ : Type} {R : β → γ → Prop}
theorem AllR.zip : ∀ {ps : List Str} {r : List β} {s : List γ}, AllR R r s → AllR (fun (x : Str × β) (y : Str × γ) => x.1 = y.1 ∧ R x.2 y.2) (ps.zip r) (ps.zip s)
  | [], _, _, _ => by simp [AllR]
  | _ :: _, [], [], _ => by simp [AllR]
  | _ :: _, [], _ :: _, h => by cases h
  | _ :: _, _ :: _, [], h => by cases h
  | p :: ps, a :: r, b :: s, h => ⟨⟨rfl, h.1⟩, AllR.zip h.2⟩
def OptR (R : β → γ → Prop) : Option β → Option γ → Prop
  | none, none => True
  | some a, some b => R a b
  | _, _ => False
theorem AllR.somes : ∀ {r : List β} {s : List γ}, AllR R r s → AllR (OptR R) (r.map some) (s.map some)
  | [], [], _ => trivial
  | [], _ :: _, h => by cases h
  | _ :: _, [], h => by cases h
  | a :: r, b :: s, h => ⟨h.1, AllR.somes h.2⟩
theorem AllR.nones : ∀ {n : Nat} {r : List (Option β)} {s : List (Option γ)}, AllR (OptR R) r s → AllR (OptR R) (List.replicate n none ++ r) (List.replicate n none ++ s)
  | 0, _, _, h => h
  | n + 1, _, _, h => ⟨trivial, AllR.nones (n := n) h⟩
theorem AllR.len : ∀ {r : List β} {s : List γ}, AllR R r s → r.length = s.length
  | [], [], _ => rfl
  | [], _ :: _, h => by cases h
  | _ :: _, [], h => by cases h
  | a :: r, b :: s, h => by simp [AllR.len h.2]
theorem AllR.dfl {ps : List Str} {r : List β} {s : List γ} (h : AllR R r s) : AllR (fun (x : Str × Option β) (y : Str × Option γ) => x.1 = y.1 ∧ OptR R x.2 y.2) (withDfl ps r) (withDfl ps s) := by
  unfold withDfl
  rw [h.len]
  exact (AllR.nones h.somes).zip
theorem AllR.look {n : Str} : ∀ {r : List (Str × β)} {s : List (Str × γ)}, AllR (fun (x : Str × β) (y : Str × γ) => x.1 = y.1 ∧ R x.2 y.2) r s → OptR R (r.lookup n) (s.lookup n)
  | [], [], _ => trivial
  | [], _ :: _, h => by cases h
  | _ :: _, [], h => by cases h
  | (p, a) :: r, (q, b) :: s, h => by
    obtain ⟨⟨h1, h2⟩, h3⟩ := h
    simp only at h1 h2
    subst h1
    by_cases hn : n = p
    · subst hn
      rw [look_eq, look_eq]
      exact h2
    · rw [look_ne hn, look_ne hn]
      exact AllR.look h3
theorem arrGo_nil {δ : Type} {p : Str} {o : Option δ} {l : List (Str × Option δ)} {kw : List (Str × δ)} : arrGo ((p, o) :: l) [] kw = (match kw.lookup p with
      | some v => (arrGo l [] kw).map (v :: ·)
      | none => (match o with
        | some d => (arrGo l [] kw).map (d :: ·)
        | none => none)) := rfl
theorem arr_rel {kw : List (Str × β)} {kw' : List (Str × γ)} (hk : ∀ n, OptR R (kw.lookup n) (kw'.lookup n)) : ∀ {l : List (Str × Option β)} {l' : List (Str × Option γ)} {vs : List β} {vs' : List γ} {all : List β},
    AllR (fun (x : Str × Option β) (y : Str × Option γ) => x.1 = y.1 ∧ OptR R x.2 y.2) l l' → AllR R vs vs' → arrGo l vs kw = some all → ∃ all', arrGo l' vs' kw' = some all' ∧ AllR R all all'
  | [], [], [], [], all, _, _, h => by cases h; exact ⟨[], rfl, trivial⟩
  | [], _ :: _, _, _, _, h, _, _ => by cases h
  | _ :: _, [], _, _, _, h, _, _ => by cases h
  | _, _, [], _ :: _, _, _, h, _ => by cases h
  | _, _, _ :: _, [], _, _, h, _ => by cases h
  | [], [], _ :: _, _ :: _, _, _, _, h => by cases h
  | (p, o) :: l, (q, o') :: l', v :: vs, v' :: vs', all, hl, hv, h => by
    obtain ⟨⟨e, _⟩, hl⟩ := hl
    simp only at e
    subst e
    have h : (if (kw.lookup p).isSome then none else (arrGo l vs kw).map (v :: ·)) = some all := h
    show ∃ all', (if (kw'.lookup p).isSome then none else (arrGo l' vs' kw').map (v' :: ·)) = some all' ∧ _
    have k := hk p
    split at h
    · cases h
    · rename_i hn
      obtain ⟨r, h1, rfl⟩ := Option.map_eq_some_iff.mp h
      obtain ⟨r', h2, h3⟩ := arr_rel hk hl hv.2 h1
      refine ⟨v' :: r', ?_, hv.1, h3⟩
      have hn' : ¬ (kw'.lookup p).isSome = true := by
        cases h6 : kw.lookup p with
        | some u => rw [h6] at hn; exact absurd rfl hn
        | none =>
          rw [h6] at k
          cases h7 : kw'.lookup p with
          | some u => rw [h7] at k; exact False.elim k
          | none => simp
      rw [if_neg hn', h2]
      rfl
  | (p, o) :: l, (q, o') :: l', [], [], all, hl, hv, h => by
    obtain ⟨⟨e, ho⟩, hl⟩ := hl
    simp only at e ho
    subst e
    rw [arrGo_nil] at h
    simp only [arrGo_nil]
    have k := hk p
    cases h6 : kw.lookup p with
    | some u =>
      rw [h6] at h k
      obtain ⟨r, h1, rfl⟩ := Option.map_eq_some_iff.mp (show (arrGo l [] kw).map (u :: ·) = some all from h)
      obtain ⟨r', h2, h3⟩ := arr_rel hk hl (vs := []) (vs' := []) trivial h1
      cases h7 : kw'.lookup p with
      | none => rw [h7] at k; exact False.elim k
      | some u' =>
        rw [h7] at k
        exact ⟨u' :: r', by show (arrGo l' [] kw').map (u' :: ·) = _; rw [h2]; rfl, k, h3⟩
    | none =>
      rw [h6] at h k
      cases h7 : kw'.lookup p with
      | some u => rw [h7] at k; exact False.elim k
      | none =>
        cases o with
        | none => cases h
        | some d =>
          cases o' with
          | none => exact False.elim ho
          | some d' =>
            obtain ⟨r, h1, rfl⟩ := Option.map_eq_some_iff.mp (show (arrGo l [] kw).map (d :: ·) = some all from h)
            obtain ⟨r', h2, h3⟩ := arr_rel hk hl (vs := []) (vs' := []) trivial h1
            exact ⟨d' :: r', by show (arrGo l' [] kw').map (d' :: ·) = _; rw [h2]; rfl, ho, h3⟩
end
theorem RepL.all {W : Wd} {ρ : Rho} {H : Hp} : ∀ {ds : List D} {vs : List V}, RepL W ρ H ds vs → AllR (Rep W ρ H) ds vs
  | [], _, h => by cases h; trivial
  | d :: ds, _, ⟨v, vs, rfl, h, r⟩ => ⟨h, RepL.all r⟩
theorem RepL.of {W : Wd} {ρ : Rho} {H : Hp} : ∀ {ds : List D} {vs : List V}, AllR (Rep W ρ H) ds vs → RepL W ρ H ds vs
  | [], [], _ => rfl
  | [], _ :: _, h => by cases h
  | _ :: _, [], h => by cases h
  | d :: ds, v :: vs, h => ⟨v, vs, rfl, h.1, RepL.of h.2⟩
theorem vals_all : ∀ {vs : List V} {us : List Value}, Vals vs us → AllR RelV vs us
  | _, _, .nil => trivial
  | _, _, .cons r rr => ⟨r, vals_all rr⟩
theorem vals_of : ∀ {vs : List V} {us : List Value}, AllR RelV vs us → Vals vs us
  | [], [], _ => .nil
  | [], _ :: _, h => by cases h
  | _ :: _, [], h => by cases h
  | _ :: _, _ :: _, h => .cons h.1 (vals_of h.2)
/-- the values come in the parameters' order -/
theorem arr_go {W : Wd} {ρ : Rho} {H : Hp} {ps ks : List Str} {dfl ds es all : List D} {dv vs zs : List V} {du us ws : List Value} (hd : RepL W ρ H dfl dv) (hu : Vals dv du) (h1 : RepL W ρ H ds vs) (h2 : Vals vs us) (h3 : RepL W ρ H es zs) (h4 : Vals zs ws)
    (h : arrGo (withDfl ps dfl) ds (ks.zip es) = some all) : ∃ allV allU, RepL W ρ H all allV ∧ Vals allV allU ∧ arrGo (withDfl ps du) us (ks.zip ws) = some allU := by
  obtain ⟨av, e1, r1⟩ := arr_rel (R := Rep W ρ H) (fun n => AllR.look (AllR.zip h3.all)) (AllR.dfl hd.all) h1.all h
  obtain ⟨au, e2, r2⟩ := arr_rel (R := RelV) (fun n => AllR.look (AllR.zip (vals_all h4))) (AllR.dfl (vals_all hu)) (vals_all h2) e1
  exact ⟨av, au, RepL.of r1, vals_of r2, e2⟩
end
end Ev
set_option Elab.async false
set_option linter.all false
set_option maxRecDepth 100000
set_option maxHeartbeats 2000000
/-! Es13: the module's names; calls; a def by its body. -/
namespace Ev
open PySem PySem.Spec PyProof.Rows L2
/-! ### what is known of the module -/
/-- the def of name x stands at f -/
structure FunAt (W : Wd) (x : Str) (fi : FnI) (f : Addr) (fd : FuncData) (dv : List V) : Prop where
  mg : W.mg x = some (.ref f)
  ex : ∃ (nm : Str) (qual : Str) (args : List Arg) (d1 : List (Option Expr)) (d2 : List Expr), FunD W.K nm qual ⟨[], args, none, [], d1, none, d2⟩ fi.body fi.scope dv [] f fd ∧ args.map (·.arg) = fi.params
  dfl : ∀ ρ H, RepL W ρ H fi.dfl dv
  sc : FnScope fi.N fi.params fi.scope
  few : fi.dfl.length ≤ fi.params.length
structure Known (W : Wd) (c : Cfg) : Prop where
  con : ∀ x d, c.con.lookup x = some d → ∃ u v, W.mg x = some u ∧ RelV v u ∧ ∀ ρ H, Rep W ρ H d v
  fns : ∀ x fi, c.fns.lookup x = some fi → ∃ f fd dv, FunAt W x fi f fd dv
  free : ∀ x, c.free.contains x = true → W.mg x = none
/-- a def's promise -/
def spD (W : Wd) (c : Cfg) (k : Nat) (x : Str) (vs : List V) (H : Hp) (Q : VK) : Prop := ∃ ρ M ds, MemAt W ρ H M ∧ RepL W ρ H ds vs ∧ Post W (Rep W) ρ H (noErr (callD c k x ds M)) Q (fun _ _ _ => False)
abbrev CX0 : CXT := fun _ _ _ _ _ _ => False
def FnG (P : Program) (w : World) (W : Wd) (base : Heap) (k : Nat) (f : Addr) (fd : FuncData) (ps : List Str) (sp : List V → Hp → VK → Prop) : Prop :=
  ∀ (A : Around) (outer : List Env) (s : Shared) (H : Hp) (args : Args) (us : List Value) (vs : List V) (Q : VK) (E : XK), Room k A → A.guards = some [] → Env0 P w W.K W.mg base A outer s H → BindsTo s fd args (ps.zip us) → Vals vs us → sp vs H Q →
    codeAny (model P w) A (.call (.ref f) args) (CR CX0 outer P w H s Q E) s
/-- the context of an expression -/
structure Good (X : L2.Cx) (W : Wd) (c : Cfg) (N : List Str) (sc : Scope) (k : Nat) : Prop where
  same : Same X W
  hmg : X.mg = W.mg
  hN : X.N = N
  nd : N.Nodup
  hsc : X.env.scope = sc
  kind : sc.kind = .function
  calm : X.calm = true
  guards : X.A.guards = some []
  room : Room k X.A
  known : Known W c
  fns : ∀ x fi, c.fns.lookup x = some fi → ∀ f fd dv, FunAt W x fi f fd dv → FnG X.prog X.w W X.base k f fd fi.params (spD W c k x)
theorem Good.hK {X : L2.Cx} {W : Wd} {c : Cfg} {N : List Str} {sc : Scope} {k : Nat} (G : Good X W c N sc k) : X.K = W.K := G.same.K
section
variable {X : L2.Cx} {W : Wd} {E : XK} {e : Expr} {c : Cfg} {N : List Str} {sc : Scope} {k : Nat}
/-! ### names -/
theorem odd_no {x : Str} (h : oddName x = false) : x ≠ "__name__" ∧ (x == ("__debug__" : Str)) = false ∧ (x == ("__classdict__" : Str)) = false := by
  unfold oddName at h
  simp only [Bool.or_eq_false_iff, decide_eq_false_iff_not] at h
  exact ⟨h.2, by simpa using h.1.1, by simpa using h.1.2⟩
theorem loc_vis {x : Str} (h : isLoc sc x = true) : Vis sc x := by
  unfold isLoc at h
  unfold Vis
  split at h <;> first | (rename_i e; simp [e]; done) | cases h
theorem st_loc {x : Str} (h : isSt sc x = true) : L2.Loc sc x := by
  unfold isSt at h
  unfold L2.Loc
  split at h <;> first | (rename_i e; simp [e]; done) | cases h
theorem gl_of (G : Good X W c N sc k) {x : Str} (h : isGl sc x = true) : Gl X x := by
  unfold isGl at h
  show X.env.scope.names.lookup x = _
  rw [G.hsc]
  split at h
  · assumption
  · cases h
theorem free_of (G : Good X W c N sc k) {x : Str} (h : c.free.contains x = true) : X.mg x = none := by
  rw [G.hmg]
  exact G.known.free x h
theorem tyOf_boot {x : Str} {t : String} (h : tyOf x = some t) : bootBuiltins x = some (.type t) := by
  unfold tyOf at h
  repeat (split at h; next e => (subst e; cases h; decide +kernel))
  cases h
theorem im_name (G : Good X W c N sc k) {call : Str → List D → Mem → Res D} {x : Str} {pos : Pos} : Im X W E (.Name x pos) (eName ⟨c, N, call⟩ sc x) := by
  unfold eName
  split
  · exact im_bad
  · rename_i ho
    obtain ⟨o1, o2, o3⟩ := odd_no (by simpa using ho)
    split
    · rename_i hl
      split
      · rename_i i hi
        exact im_var (by rw [G.hN]; exact ixOf_at hi) (by rw [G.hsc]; exact loc_vis hl) o2 o3
      · exact im_bad
    · split
      · rename_i hg
        have hg := gl_of G hg
        split
        · rename_i d hd
          obtain ⟨u, v, h1, h2, h3⟩ := G.known.con x d hd
          exact PEimp (pe_glob hg (by rw [G.hmg]; exact h1) h2 o2) fun σ H Q ⟨ρ, δ, M, s, m, p⟩ => Post.here p m (h3 ρ H)
        · split
          · rename_i hf
            obtain ⟨fi, hfi⟩ := Option.isSome_iff_exists.mp hf
            obtain ⟨f, fd, dv, F⟩ := G.known.fns x fi hfi
            exact PEimp (pe_glob (v := .ref f) hg (by rw [G.hmg]; exact F.mg) rfl o2) fun σ H Q ⟨ρ, δ, M, s, m, p⟩ => Post.here p m ⟨f, F.mg, rfl⟩
          · split
            · rename_i hfr
              split
              · rename_i t ht
                exact PEimp (pe_bltn (v := .ty t) hg (free_of G hfr) (tyOf_boot ht) rfl o1 o2) fun σ H Q ⟨ρ, δ, M, s, m, p⟩ => Post.here (b := V.ty t) p m rfl
              · exact im_bad
            · exact im_bad
      · exact im_bad
/-! ### calls -/
theorem post_noErr {α β : Type} {rel : Rho → Hp → α → β → Prop} {ρ : Rho} {H : Hp} {r : Res α} {Q : β → Hp → Prop} {E E' : XK} (h : Post W rel ρ H (noErr r) Q E) : Post W rel ρ H (noErr r) Q E' := by
  cases r <;> exact h
theorem binds_of {x qual : Str} {args : List Arg} {d1 : List (Option Expr)} {d2 : List Expr} {body : List Stmt} {scope : Scope} {dv : List V} {f : Addr} {fd : FuncData} {K : PySem.W.Frag} (F : FunD K x qual ⟨[], args, none, [], d1, none, d2⟩ body scope dv [] f fd) {ps : List Str}
    (hps : args.map (·.arg) = ps) (nd : ps.Nodup) (hl : dv.length ≤ ps.length) :
    ∃ du, Vals dv du ∧ ∀ (s : Shared) (us all : List Value) (kw : List (Str × Value)), K.In s.heap → arrGo (withDfl ps du) us kw = some all → (∀ kv ∈ kw, ps.contains kv.1 = true) → (kw.map (·.1)).Nodup → BindsTo s fd ⟨us, kw⟩ (ps.zip all) := by
  obtain ⟨oc, od, dV, kV, doc, pm, an, cdv, ct, osl, rfl, lk, hcd, hD, hK⟩ := F.ex
  rcases hD with ⟨rfl, rfl⟩ | ⟨_, T, o, its, n, rfl, lT, oT, rT⟩
  · refine ⟨[], .nil, fun s us all kw _ ha h1 h2 => ?_⟩
    obtain ⟨kk, e1, e2⟩ := bind_ok (fd := PySem.W.fnOf x qual ⟨[], args, none, [], d1, none, d2⟩ body scope .none kV doc pm an cdv ct) rfl hps nd (Nat.zero_le _) ha h1 h2
    exact BindsTo.of_eq (e1.trans (e2 none rfl))
  · refine ⟨its, rT, fun s us all kw X ha h1 h2 => ?_⟩
    obtain ⟨kk, e1, e2⟩ := bind_ok (fd := PySem.W.fnOf x qual ⟨[], args, none, [], d1, none, d2⟩ body scope (.ref T) kV doc pm an cdv ct) rfl hps nd (by rw [← rT.length]; exact hl) ha h1 h2
    refine BindsTo.of_looks fun M => ?_
    rw [e1]
    exact looks_items X lT oT (.of_pure (e2 _ (by simp)))
theorem kw_names {env : Env} : ∀ {kws : List Keyword} {ks : List Str}, kwNames kws = some ks → (∀ pos, (backToKw pos (keywordEach kws env)).all (·.1.isSome) = true) ∧ (∀ pos, (backToKw pos (keywordEach kws env)).filterMap (·.1) = ks) ∧ (∀ pos, (backToKw pos (keywordEach kws env)).any (·.1.isNone) = false) ∧ ks.Nodup ∧ ks.length = kws.length
  | [], _, h => by cases h; exact ⟨fun _ => rfl, fun _ => rfl, fun _ => rfl, List.nodup_nil, rfl⟩
  | ⟨none, _, _⟩ :: r, _, h => by cases h
  | ⟨some n, v, p⟩ :: r, ks, h => by
    obtain ⟨js, h1, h2⟩ := Option.bind_eq_some_iff.mp (show (kwNames r).bind (fun ks => if ks.contains n then none else some (n :: ks)) = some ks from h)
    split at h2
    · cases h2
    · rename_i hn
      cases h2
      obtain ⟨i1, i2, i3, i4, i5⟩ := kw_names (env := env) h1
      refine ⟨fun pos => ?_, fun pos => ?_, fun pos => ?_, List.nodup_cons.mpr ⟨fun z => hn (by simpa using z), i4⟩, by simp [i5]⟩
      · show (true && (backToKw pos (keywordEach r env)).all (·.1.isSome)) = true
        rw [i1]; rfl
      · show n :: (backToKw pos (keywordEach r env)).filterMap (·.1) = _
        rw [i2]
      · show (false || (backToKw pos (keywordEach r env)).any (·.1.isNone)) = false
        rw [i3]; rfl
theorem PKimp {kws : List Keyword} {t t' : TA} (h : PK X kws t) (k : ∀ σ H Q, t' σ H Q → t σ H Q) : PK X kws t' := ⟨fun pos pins s σ H Q I q => h.run pos pins s σ H Q I (k _ _ _ q)⟩
theorem imK (f : Expr → Den) : ∀ kws : List Keyword, (∀ q ∈ kws, Im X W E q.value (f q.value)) → PK X kws (tA W E (eL (kws.map fun q => (false, f q.value))))
  | [], _ => PKimp pk_nil fun σ H Q ⟨ρ, δ, M, s, m, p⟩ => Post.here (b := ([] : List V)) p m rfl
  | ⟨n, v, pos⟩ :: r, h => by
    have h1 : Im X W E v (f v) := h ⟨n, v, pos⟩ (by simp)
    have h2 := imK f r fun q hq => h q (List.mem_cons_of_mem _ hq)
    refine PKimp (pk_cons h1 h2) fun σ H Q ⟨ρ, δ, M, s, m, p⟩ => ?_
    refine ⟨ρ, δ, M, s, m, (Post.bind p).mono fun x H1 ⟨ρ1, a, M1, x1, m1, r1, p1⟩ => ?_⟩
    refine ⟨ρ1, δ, M1, s.ext x1, m1, (Post.bind p1).mono fun zs H2 ⟨ρ2, b2, M2, x2, m2, r2, p2⟩ => ?_⟩
    exact Post.here p2 m2 ⟨x, zs, rfl, Rep.ext x2 _ _ r1, r2⟩
/-- the callee runs -/
theorem run_g {pins : List (Addr × Obj)} {σ : L2.St} {H : Hp} {s : Shared} {Q : VK} {f : Addr} {fd : FuncData} {ps : List Str} {sp : List V → Hp → VK → Prop} {us all : List Value} {kw : List (Str × Value)} {vs : List V} (hK : X.K = W.K) (hm : X.mg = W.mg) (F : FnG X.prog X.w W X.base k f fd ps sp)
    (hr : Room k X.A) (hg : X.A.guards = some []) (hb : BindsTo s fd ⟨us, kw⟩ (ps.zip all)) (I : Inv X pins σ H s) (r : Vals vs all) (h : sp vs H Q) : wpAny (model X.prog X.w) X.A (call (.ref f) us kw) (EP X pins σ Q) X.xe s := by
  refine wpAny_call (codeAny_mono (F X.A X.stack s H ⟨us, kw⟩ all vs Q (fun _ _ _ => False) hr hg (by rw [← hK, ← hm]; exact I.env0) hb r h) fun r s' hq => ?_)
  cases r with
  | error e => exact False.elim hq
  | ok fl =>
    cases fl with
    | ret u => exact I.after hq
    | next => exact False.elim hq
    | brk => exact False.elim hq
    | cont => exact False.elim hq
/-- what the arguments lead to -/
def Args2 (W : Wd) (c : Cfg) (k : Nat) (x : Str) (fi : FnI) (ks : List Str) (Q : VK) (vs zs : List V) (H2 : Hp) : Prop :=
  ∃ ρ M ds es all, MemAt W ρ H2 M ∧ RepL W ρ H2 ds vs ∧ RepL W ρ H2 es zs ∧ arrGo (withDfl fi.params fi.dfl) ds (ks.zip es) = some all ∧ Post W (Rep W) ρ H2 (noErr (callD c k x all M)) Q (fun _ _ _ => False)
theorem args_law {x : Str} {fi : FnI} {as : List (Bool × Den)} {ks : List Str} {kd : List (Bool × Den)} {σ : L2.St} {H : Hp} {Q : VK} (h : tI W E (eCall (callD c k x) (withDfl fi.params fi.dfl) as ks kd) σ H Q) (hfew : fi.dfl.length ≤ fi.params.length) :
    tA W E (eL as) σ H (fun vs H1 => tA W E (eL kd) σ H1 fun zs H2 => (∀ n ∈ ks, fi.params.contains n = true) ∧ Args2 W c k x fi ks Q vs zs H2) := by
  obtain ⟨ρ, δ, M, s, m, p⟩ := h
  unfold eCall at p
  split at p
  · exact False.elim p
  · rename_i hks
    rw [names_dfl _ _ hfew] at hks
    refine ⟨ρ, δ, M, s, m, (Post.bind p).mono fun vs H1 ⟨ρ1, ds, M1, x1, m1, r1, p1⟩ => ⟨ρ1, δ, M1, s.ext x1, m1, (Post.bind p1).mono fun zs H2 ⟨ρ2, es, M2, x2, m2, r2, p2⟩ => ⟨fun n hn => ?_, ?_⟩⟩⟩
    · have hks' : ks.all fi.params.contains = true := by simpa using hks
      exact List.all_eq_true.mp hks' n hn
    · split at p2
      · rename_i all ha
        exact ⟨ρ2, M2, ds, es, all, m2, RepL.ext x2 _ _ r1, r2, ha, post_noErr p2⟩
      · exact False.elim p2
theorem zip_sub : ∀ (ks : List Str) (ws : List Value), List.Sublist ((ks.zip ws).map (·.1)) ks
  | [], _ => by simp
  | _ :: _, [] => by simp
  | k :: ks, w :: ws => by
    show List.Sublist (k :: (ks.zip ws).map (·.1)) (k :: ks)
    exact (zip_sub ks ws).cons₂ k
theorem after_args (G : Good X W c N sc k) {x : Str} {fi : FnI} {f : Addr} {fd : FuncData} {dv : List V} (hx : c.fns.lookup x = some fi) (F : FunAt W x fi f fd dv) {ks : List Str} (hnd : ks.Nodup) {pins : List (Addr × Obj)} {σ : L2.St} {H2 : Hp} {s2 : Shared} {Q : VK} {vs zs : List V} {us ws : List Value}
    (I2 : Inv X pins σ H2 s2) (r : Vals vs us) (rz : Vals zs ws) (hin : ∀ n ∈ ks, fi.params.contains n = true) (h : Args2 W c k x fi ks Q vs zs H2) : wpAny (model X.prog X.w) X.A (call (.ref f) us (ks.zip ws)) (EP X pins σ Q) X.xe s2 := by
  obtain ⟨ρ, M, ds, es, all, m, q1, q2, ha, p⟩ := h
  obtain ⟨nm, qual, args, d1, d2, FD, hps⟩ := F.ex
  have ndp : fi.params.Nodup := by rw [← F.sc.pre]; exact F.sc.nd.sublist (List.take_sublist _ _)
  have ld := (F.dfl ρ H2).length
  obtain ⟨du, hdu, hb⟩ := binds_of FD hps ndp (by rw [← ld]; exact F.few)
  obtain ⟨allV, allU, e1, e2, e3⟩ := arr_go (F.dfl ρ H2) hdu q1 r q2 rz ha
  have hkin : W.K.In s2.heap := by rw [← G.hK]; exact I2.kIn
  exact run_g G.hK G.hmg (G.fns x fi hx f fd dv F) G.room G.guards (hb s2 us allU (ks.zip ws) hkin e3 (fun kv hkv => hin _ ((zip_sub ks ws).subset (List.mem_map_of_mem hkv))) (hnd.sublist (zip_sub ks ws))) I2 e2 ⟨ρ, M, all, m, e1, p⟩
/-- f(..), whatever gives f -/
theorem im_callF (G : Good X W c N sc k) {x : Str} {fi : FnI} {f : Addr} {fd : FuncData} {dv : List V} (hx : c.fns.lookup x = some fi) (F : FunAt W x fi f fd dv) {es : List Expr} {kws : List Keyword} {ks : List Str} {as : List (Bool × Den)} {g : Expr → Den} {pos : Pos}
    (hs : es.all noStar = true) (hk : kwNames kws = some ks) (ha : ImA X W E es (eL as)) (hkw : ∀ q ∈ kws, Im X W E q.value (g q.value)) (hlen : es.length = as.length)
    {pins : List (Addr × Obj)} {s : Shared} {σ : L2.St} {H : Hp} {Q : VK} (I : Inv X pins σ H s) (h : tI W E (eCall (callD c k x) (withDfl fi.params fi.dfl) as ks (kws.map fun q => (false, g q.value))) σ H Q) :
    wpAny (model X.prog X.w) X.A (callWith pos (.ref f) [] (backTo pos (starEach es X.env)) (backToKw pos (keywordEach kws X.env))) (EP X pins σ Q) X.xe s := by
  obtain ⟨nm, qual, args, d1, d2, FD, hps⟩ := F.ex
  have kp : PySem.W.keepIn X.K (.ref f) = true := by rw [G.hK]; exact FD.kp
  obtain ⟨k1, k2, k3, k4, k5⟩ := kw_names (env := X.env) hk
  have h2 := args_law h F.few
  have pk := imK g kws hkw
  have fin : ∀ (us : List Value) (s1 : Shared) (vs : List V) (H1 : Hp), Inv X pins σ H1 s1 → Vals vs us → tA W E (eL (kws.map fun q => (false, g q.value))) σ H1 (fun zs H2 => (∀ n ∈ ks, fi.params.contains n = true) ∧ Args2 W c k x fi ks Q vs zs H2) →
      wpAny (model X.prog X.w) X.A (evalAll ((backToKw pos (keywordEach kws X.env)).map (·.2))) (fun ws s₂ => X.K.In s₂.heap ∧ wpAny (model X.prog X.w) X.A (call (.ref f) ([] ++ us) (((backToKw pos (keywordEach kws X.env)).filterMap (·.1)).zip ws)) (EP X pins σ Q) X.xe s₂) X.xe s1 := fun us s1 vs H1 I1 r q => by
    refine thn (pk.run pos pins s1 σ H1 _ I1 q) fun ws s2 ⟨zs, H2, I2, rz, hin, q2⟩ => ⟨I2.kIn, ?_⟩
    rw [k2]
    exact after_args G hx F k4 I2 r rz hin q2
  cases es with
  | nil =>
    cases as with
    | cons _ _ => cases hlen
    | nil =>
      refine PySem.W.callWith_KW0 (h₀ := X.base) I.ok.mod.kin kp (k1 pos) ?_ (by rw [k3]; rfl)
      obtain ⟨ρ, δ, M, s', m, p⟩ := h2
      exact fin [] s [] H I .nil (Post.here (b := ([] : List V)) p m rfl)
  | cons e es =>
    have hs' := hs
    simp only [List.all_cons, Bool.and_eq_true] at hs'
    refine PySem.W.callWith_KW (h₀ := X.base) I.ok.mod.kin kp (k1 pos) (thn (ha.run pos pins s σ H _ I h2) fun us s1 ⟨vs, H1, I1, r, q⟩ => fin us s1 vs H1 I1 r q) ?_ (starEach_no hs'.1)
    rw [stars_no hs, k3]; rfl
/-- x(..), x a def of the module -/
theorem im_call (G : Good X W c N sc k) {x : Str} {fi : FnI} (hx : c.fns.lookup x = some fi) (hg : Gl X x) (ho : oddName x = false) {es : List Expr} {kws : List Keyword} {ks : List Str} {as : List (Bool × Den)} {g : Expr → Den} {p pos : Pos}
    (hs : es.all noStar = true) (hk : kwNames kws = some ks) (ha : ImA X W E es (eL as)) (hkw : ∀ q ∈ kws, Im X W E q.value (g q.value)) (hlen : es.length = as.length) :
    Im X W E (.Call (.Name x p) es kws pos) (eCall (callD c k x) (withDfl fi.params fi.dfl) as ks (kws.map fun q => (false, g q.value))) := by
  obtain ⟨f, fd, dv, F⟩ := G.known.fns x fi hx
  refine ⟨fun pins s σ H Q I h => ?_⟩
  exact wpAny_Call_Name_kw (ld_glob I hg (by rw [G.hmg]; exact F.mg) (im_callF G hx F hs hk ha hkw hlen I h) (odd_no ho).2.1)
/-- .. a local name that holds one -/
theorem im_callL (G : Good X W c N sc k) {x : Str} {i : Nat} (hi : X.N[i]? = some x) (hv : Vis X.env.scope x) (ho : oddName x = false) {es : List Expr} {kws : List Keyword} {ks : List Str} {as : List (Bool × Den)} {g : Expr → Den} {p pos : Pos}
    (hs : es.all noStar = true) (hk : kwNames kws = some ks) (ha : ImA X W E es (eL as)) (hkw : ∀ q ∈ kws, Im X W E q.value (g q.value)) (hlen : es.length = as.length) :
    Im X W E (.Call (.Name x p) es kws pos) (eCallL ⟨c, N, callD c k⟩ i as ks (kws.map fun q => (false, g q.value))) := by
  refine ⟨fun pins s σ H Q I h => ?_⟩
  obtain ⟨ρ, δ, M, s', m, p⟩ := h
  unfold eCallL at p
  split at p
  · rename_i y hy
    split at p
    · rename_i fi hfi
      obtain ⟨v, h1, h2⟩ := s'.2 i _ hy
      obtain ⟨f, hf, rfl⟩ := h2
      obtain ⟨f', fd, dv, F⟩ := G.known.fns y fi hfi
      have ef : f = f' := by
        have := hf.symm.trans F.mg
        cases this
        rfl
      subst ef
      refine wpAny_Call_Name_kw (thn ((pe_var hi hv (odd_no ho).2.1 (odd_no ho).2.2).run pins s σ H (fun v H1 => v = .ref f ∧ H1 = H) I ⟨.ref f, h1, rfl, rfl⟩) fun u s1 ⟨v, H1, I1, r1, q1⟩ => ?_)
      obtain ⟨rfl, rfl⟩ := q1
      cases r1
      exact im_callF G hfi F hs hk ha hkw hlen I1 ⟨ρ, δ, M, s', m, p⟩
    · exact False.elim p
  · exact False.elim p
end
end Ev
set_option Elab.async false
set_option linter.all false
set_option maxRecDepth 100000
set_option maxHeartbeats 2000000
/-! Es14: a def keeps its promise when its body does what it means. -/
namespace Ev
open PySem PySem.Spec PyProof.Rows L2
abbrev E0 : XK := fun _ _ _ => False
section
variable {W : Wd} {c : Cfg} {k : Nat}
theorem start_rep {ρ : Rho} {H : Hp} {ds : List D} {vs : List V} (r : RepL W ρ H ds vs) (N : List Str) : SRep W ρ H (startD N ds) (L2.start N vs) := by
  have hl := r.length
  refine ⟨by unfold startD L2.start; simp [hl], fun i d e => ?_⟩
  unfold startD at e
  unfold L2.start
  by_cases hi : i < ds.length
  · rw [List.getElem?_append_left (by simpa using hi), List.getElem?_map] at e
    obtain ⟨d', h1, h2⟩ := Option.map_eq_some_iff.mp e
    cases h2
    obtain ⟨v, h3, h4⟩ := r.get h1
    exact ⟨v, by rw [List.getElem?_append_left (by rw [List.length_map, ← hl]; exact hi), List.getElem?_map, h3]; rfl, h4⟩
  · rw [List.getElem?_append_right (by simpa using hi), List.getElem?_replicate] at e
    split at e <;> cases e
theorem post_end {ρ : Rho} {H : Hp} {r : Res Fl} {Q : VK} {E : XK} (h : Post W (Rep W) ρ H (noErr (endD r)) Q E) : PostS W ρ H r { nx := fun _ H' => Q .non H', rt := Q } E0 := by
  cases r with
  | bad => exact h
  | err _ _ _ => exact False.elim h
  | ok f M =>
    cases f with
    | nx δ => exact fun ρ' σ' H' x m _ => h ρ' .non H' x m rfl
    | rt d => exact fun ρ' v H' x m r => h ρ' v H' x m r
    | bk _ => exact False.elim h
    | ct _ => exact False.elim h
theorem fn_g {P : Program} {w : World} {base : Heap} (hP : P = W.prog) (hw : w = W.w) (Kn : Known W c) {x : Str} {fi : FnI} {f : Addr} {fdt : FuncData} {dv : List V} (hx : c.fns.lookup x = some fi) (F : FunAt W x fi f fdt dv)
    (ih : ∀ x fi, c.fns.lookup x = some fi → ∀ f fdt dv, FunAt W x fi f fdt dv → FnG P w W base k f fdt fi.params (spD W c k x))
    (body : ∀ X : L2.Cx, X.prog = P → X.w = w → X.base = base → Good X W c fi.N fi.scope k → Stores X fi.N fi.scope → PassesOwn (model X.prog X.w) X.A X.env X.xe → ImSts X W E0 fi.body (denSts ⟨c, fi.N, callD c k⟩ Ev.fd fi.scope fi.body)) :
    FnG P w W base (k + 1) f fdt fi.params (spD W c (k + 1) x) := by
  intro A outer s H args us vs Q E room guards e0 binds rv hsp
  obtain ⟨ρ, M, ds, m, rd, p⟩ := hsp
  have hcall : callD c (k + 1) x ds M = if ds.length = fi.params.length then endD (denSts ⟨c, fi.N, callD c k⟩ Ev.fd fi.scope fi.body (startD fi.N ds) M) else .bad := by
    show (match c.fns.lookup x with | some f => _ | none => _) = _
    rw [hx]
  rw [hcall] at p
  by_cases hn : ds.length = fi.params.length
  case neg => rw [if_neg hn] at p; exact False.elim p
  rw [if_pos hn] at p
  have hv : vs.length = fi.params.length := by rw [← rd.length]; exact hn
  obtain ⟨nm, qual, al, d1, d2, FD, hps⟩ := F.ex
  obtain ⟨oc, od, dV, kV, doc, pm, an, cdv, ct, osl, rfl, lk, hcd, _, _⟩ := FD.ex
  have stands : W.K.In s.heap := e0.mod.kin.keeps fun b o e => (e0.bs b o e).1
  have S := F.sc
  have pars : ∀ y ∈ fi.params.zip us, fi.scope.names.lookup y.1 = some .local ∨ (fi.scope.names.lookup y.1 = some .cell ∧ ((cellsFrom (s.heap.objs.size + 1) fi.scope.names []).lookup y.1).isSome = true) := by
    rintro ⟨n, v⟩ hy
    exact (S.par n (List.of_mem_zip hy).1).imp id fun q => ⟨q, PySem.W.cellsFrom_some _ _ _ (.inl q)⟩
  refine codeAny_call_function room.depth (stands _ _ lk) rfl S.co S.gen rfl (PySem.W.codeRec_of stands hcd) (binds _ _ _ _ ?_)
  refine wpAny_newFunctionEnv_cells S.kind pars fun env he s1 inn => ?_
  subst he
  refine ⟨(e0.mod.nolimit.keeps fun b o e => (e0.bs b o e).1).keeps inn.toInCall.keep, codeAny_func ?_⟩
  have I := inv_start (CX := CX0) (E := E) (qual := qual) (f := f) (cd := cdv) S room.hd e0 hv rv inn
  have good : Good (cxOf CX0 P w W.K W.mg base fi.N qual fi.scope f cdv A outer s H E) W c fi.N fi.scope k :=
    { same := ⟨rfl, hP, hw⟩, hmg := rfl, hN := rfl, nd := S.nd, hsc := rfl, kind := S.kind, calm := rfl, guards := guards, room := room.deeper _, known := Kn, fns := ih }
  have stores : Stores (cxOf CX0 P w W.K W.mg base fi.N qual fi.scope f cdv A outer s H E) fi.N fi.scope := ⟨S.nd, rfl, fun y hy => ⟨st_loc hy, .inl rfl⟩⟩
  have run := (body _ rfl rfl rfl good stores (passes_of rfl)).run [] s1 (L2.start fi.N vs) H { nx := fun _ H' => Q .non H', rt := Q } I ⟨ρ, startD fi.N ds, M, start_rep rd fi.N, m, post_end p⟩
  refine wpAny_mono run (fun fl s' hs => ?_) fun e s' hs => hs
  cases fl with
  | ret u =>
    obtain ⟨v, σ', H', J, r, q⟩ := hs
    exact ⟨v, H', J.os, J.bare, J.base, J.hok, r, q⟩
  | next =>
    obtain ⟨σ', H', J, q⟩ := hs
    exact ⟨.non, H', J.os, J.bare, J.base, J.hok, rfl, q⟩
  | brk => obtain ⟨_, _, _, q⟩ := hs; exact False.elim q
  | cont => obtain ⟨_, _, _, q⟩ := hs; exact False.elim q
end
end Ev
set_option Elab.async false
set_option linter.all false
set_option maxRecDepth 100000
set_option maxHeartbeats 2000000
/-! Es15: every expression does what it means. -/
namespace Ev
open PySem PySem.Spec PyProof.Rows L2
section
variable {W : Wd} {c : Cfg} {N : List Str} {k : Nat}
def isSetE : Expr → Bool
  | .Set _ _ _ => true
  | _ => false
theorem folded_no {e : Expr} {env : Env} (h : isSetE e = false) : ∀ x, foldedSetIterable e env x = pure x := by
  intro x
  cases e <;> first | rfl | cases h
theorem look_keep {κ : NameKind} (hκ : κ ≠ .free) {f : Str × NameKind → Bool} : ∀ {names : List (Str × NameKind)} {x : Str}, names.lookup x = some κ → (names.map fun (n, k) => if (k == NameKind.free && f (n, k)) then (n, NameKind.cell) else (n, k)).lookup x = some κ
  | [], _, h => by cases h
  | (n, j) :: r, x, h => by
    by_cases hx : x = n
    · subst hx
      rw [look_eq] at h
      have ej : j = κ := Option.some.inj h
      have e : (j == NameKind.free) = false := by
        rw [ej]
        cases κ <;> first | rfl | exact absurd rfl hκ
      show List.lookup x ((if (j == NameKind.free && f (x, j)) = true then (x, NameKind.cell) else (x, j)) :: _) = _
      rw [e, Bool.false_and, if_neg (by decide), look_eq, ej]
    · rw [look_ne hx] at h
      show List.lookup x ((if (j == NameKind.free && f (n, j)) = true then (n, NameKind.cell) else (n, j)) :: _) = _
      split
      · rw [look_ne hx]; exact look_keep hκ h
      · rw [look_ne hx]; exact look_keep hκ h
theorem rel_keep {κ : NameKind} (hκ : κ ≠ .free) {bsc : Scope} {env : Env} {x : Str} (h : bsc.names.lookup x = some κ) : (relabel bsc env).names.lookup x = some κ := by
  have := look_keep hκ (f := fun p => env.scope.kind == .function && env.kindOf p.1 == some .cell) h
  simpa [relabel, Bool.and_assoc] using this
/-- a comprehension's block -/
theorem good_blk {X : L2.Cx} {sc bsc : Scope} (G : Good X W c N sc k) (hb : bsc.kind = .function) (s : Shared) (H : Hp) (C : Addr) (cl : List (Str × Addr)) (fp : List Addr) : Good (X.blk s H bsc (compEnvC bsc cl C X.env) fp) W c N (L2.relS bsc sc) k where
  same := ⟨G.same.K, G.same.P, G.same.w⟩
  hmg := G.hmg
  hN := G.hN
  nd := G.nd
  hsc := by
    show relabel bsc X.env = _
    rw [← G.hsc]
    rfl
  kind := hb
  calm := G.calm
  guards := G.guards
  room := G.room
  known := G.known
  fns := G.fns
theorem stores_blk {X : L2.Cx} {sc bsc : Scope} (G : Good X W c N sc k) (s : Shared) (H : Hp) (C : Addr) (cl : List (Str × Addr)) (fp : List Addr) : Stores (X.blk s H bsc (compEnvC bsc cl C X.env) fp) N bsc where
  nd := by show X.N.Nodup; rw [G.hN]; exact G.nd
  N := G.hN
  st := fun x h => by
    unfold isSt at h
    split at h
    · rename_i e
      have := rel_keep (κ := .local) (by decide) (env := X.env) e
      exact ⟨.inl this, .inr this⟩
    · rename_i e
      have := rel_keep (κ := .cell) (by decide) (env := X.env) e
      exact ⟨.inr this, .inl (by show (bsc.names.lookup x == some .cell) = true; rw [e]; rfl)⟩
    · cases h
theorem units66 {A : Around} (r : Room k A) : A.units + 66 < cLine := by have := r.un; omega
theorem units65 {A : Around} (r : Room k A) : A.units + 65 < cLine := by have := r.un; omega
/-- every expression of fuel n -/
structure Sound (W : Wd) (c : Cfg) (N : List Str) (k n : Nat) : Prop where
  A : ∀ {X : L2.Cx} {sc : Scope} (E : XK) (e : Expr), Good X W c N sc k → Im X W E e (den ⟨c, N, callD c k⟩ n sc e)
  T : ∀ {X : L2.Cx} {sc : Scope} (E : XK) (e : Expr), Good X W c N sc k → ImT X W E e (denT ⟨c, N, callD c k⟩ n sc e)
  S : ∀ {X : L2.Cx} {sc : Scope} (E : XK) (e : Expr), Good X W c N sc k → ImS X W E e (denS ⟨c, N, callD c k⟩ n sc e)
  O : ∀ {X : L2.Cx} {sc : Scope} (E : XK) (e : Option Expr), Good X W c N sc k → ImO X W E e (denO ⟨c, N, callD c k⟩ n sc e)
  I : ∀ {X : L2.Cx} {sc : Scope} (E : XK) (tg e : Expr), Good X W c N sc k → ImI X W E tg e (denI ⟨c, N, callD c k⟩ n sc tg e)
  B : ∀ {X : L2.Cx} {sc : Scope} (E : XK) (x : Str) (as : List Expr) (p pos : Pos), Good X W c N sc k → Gl X x → c.free.contains x = true → as.all noStar = true → Im X W E (.Call (.Name x p) as [] pos) (denB ⟨c, N, callD c k⟩ n sc x as pos)
theorem imO_bad {X : L2.Cx} {E : XK} {e : Option Expr} : ImO X W E e (fun _ _ => .bad) := ⟨fun pins s σ H Q I ⟨_, _, _, _, _, p⟩ => False.elim p⟩
theorem sound0 : Sound W c N k 0 := by
  refine ⟨fun E e _ => ?_, fun E e _ => ?_, fun E e _ => ?_, fun E e _ => ?_, fun E tg e _ => ?_, fun E x as p pos _ _ _ _ => ?_⟩
  · unfold den; exact im_bad
  · unfold denT; exact imT_bad
  · by_cases h : ∃ e' q, e = .Starred e' q
    · obtain ⟨e', q, rfl⟩ := h
      exact .inl ⟨e', q, rfl, rfl, im_bad⟩
    · have hn : noStar e = true := by
        cases e <;> first | rfl | exact absurd ⟨_, _, rfl⟩ h
      have hd : denS ⟨c, N, callD c k⟩ 0 ‹_› e = (false, eBad) := by
        cases e <;> first | rfl | cases hn
      rw [hd]
      exact .inr ⟨hn, rfl, im_bad⟩
  · unfold denO; exact imO_bad
  · unfold denI; exact imI_bad
  · unfold denB; exact im_bad
theorem soundB {n : Nat} (ih : Sound W c N k n) {X : L2.Cx} {sc : Scope} (E : XK) (x : Str) (as : List Expr) (p pos : Pos) (G : Good X W c N sc k) (hg : Gl X x) (hf : c.free.contains x = true) (hs : as.all noStar = true) :
    Im X W E (.Call (.Name x p) as [] pos) (denB ⟨c, N, callD c k⟩ (n + 1) sc x as pos) := by
  have ha : ImA X W E as (eL (as.map (denS ⟨c, N, callD c k⟩ n sc))) := imA G.hK _ as fun e _ => ih.S E e G
  unfold denB
  split
  · rename_i hx
    have hx := of_decide_eq_true hx
    subst hx
    exact im_list G.hK hg (free_of G hf) hs (by simp) ha
  · unfold optE
    split
    · rename_i b hb
      exact im_bi G.hK G.calm G.guards (units66 G.room) hb hg (free_of G hf) hs (by simp) ha
    · exact im_bad
theorem soundO {n : Nat} (ih : Sound W c N k n) {X : L2.Cx} {sc : Scope} (E : XK) (e : Option Expr) (G : Good X W c N sc k) : ImO X W E e (denO ⟨c, N, callD c k⟩ (n + 1) sc e) := by
  cases e with
  | none => exact imO_none
  | some e => exact imO_some (ih.A E e G)
theorem soundS {n : Nat} (ih : Sound W c N k n) {X : L2.Cx} {sc : Scope} (E : XK) (e : Expr) (G : Good X W c N sc k) : ImS X W E e (denS ⟨c, N, callD c k⟩ (n + 1) sc e) := by
  by_cases h : ∃ e' q, e = .Starred e' q
  · obtain ⟨e', q, rfl⟩ := h
    exact .inl ⟨e', q, rfl, rfl, ih.A E e' G⟩
  · have hn : noStar e = true := by
      cases e <;> first | rfl | exact absurd ⟨_, _, rfl⟩ h
    have hd : denS ⟨c, N, callD c k⟩ (n + 1) sc e = (false, den ⟨c, N, callD c k⟩ n sc e) := by
      cases e <;> first | rfl | cases hn
    rw [hd]
    exact .inr ⟨hn, rfl, ih.A E e G⟩
theorem soundT {n : Nat} (ih : Sound W c N k n) {X : L2.Cx} {sc : Scope} (E : XK) (e : Expr) (G : Good X W c N sc k) : ImT X W E e (denT ⟨c, N, callD c k⟩ (n + 1) sc e) := by
  unfold denT
  split
  · exact imT_not (ih.T E _ G)
  · exact (imW_bool _ _ fun e _ => ih.T E e G).pt
  · exact imT_bad
  · split
    · exact imT_bad
    · rename_i h
      exact imT_cmp G.same (units65 G.room) (by simpa using h) (ih.A E _ G) (ih.A E _ G)
  · split
    · exact imT_bad
    · rename_i h
      exact imT_cmp2 G.same (units65 G.room) (by simpa using h) (ih.A E _ G) (ih.A E _ G) (ih.A E _ G)
  · exact imT_bad
  · rename_i h1 h2 h3 h4 h5 h6
    refine imT_truth G.hK (ih.A E _ G) fun whole => ?_
    cases e with
    | UnaryOp op a p =>
      cases op with
      | Not => exact absurd rfl (h1 a p)
      | _ => rfl
    | BoolOp op vs p => exact absurd rfl (h2 op vs p)
    | IfExp t a b p => exact absurd rfl (h3 t a b p)
    | Compare a ops bs p => exact absurd rfl (h6 a ops bs p)
    | _ => rfl
theorem soundI {n : Nat} (ih : Sound W c N k n) {X : L2.Cx} {sc : Scope} (E : XK) (tg e : Expr) (G : Good X W c N sc k) : ImI X W E tg e (denI ⟨c, N, callD c k⟩ (n + 1) sc tg e) := by
  unfold denI
  split
  · rename_i x p as pos
    split
    · rename_i h
      simp only [Bool.and_eq_true, decide_eq_true_eq] at h
      obtain ⟨⟨⟨rfl, hg⟩, hf⟩, hs⟩ := h
      have hg := gl_of G hg
      have hm := free_of G hf
      split
      · rename_i a
        simp only [List.all_cons, List.all_nil, Bool.and_true] at hs
        exact imI_range1 hg hm hs (ih.A E _ G)
      · rename_i a b
        simp only [List.all_cons, List.all_nil, Bool.and_true, Bool.and_eq_true] at hs
        exact imI_range2 hg hm hs.1 hs.2 (ih.A E _ G) (ih.A E _ G)
      · rename_i a b d
        simp only [List.all_cons, List.all_nil, Bool.and_true, Bool.and_eq_true] at hs
        exact imI_range3 hg hm hs.1 hs.2.1 hs.2.2 (ih.A E _ G) (ih.A E _ G) (ih.A E _ G)
      · exact imI_bad
    · split
      · rename_i h
        simp only [Bool.and_eq_true, decide_eq_true_eq] at h
        obtain ⟨⟨⟨rfl, hg⟩, hf⟩, ht⟩ := h
        split
        · split
          · rename_i hs
            cases tg <;> first | cases ht | skip
            exact imI_enum G.hK (gl_of G hg) (free_of G hf) hs (ih.A E _ G)
          · exact imI_bad
        · exact imI_bad
      · split
        · rename_i h
          simp only [Bool.and_eq_true, decide_eq_true_eq] at h
          obtain ⟨⟨⟨rfl, hg⟩, hf⟩, ht⟩ := h
          split
          · split
            · rename_i hs
              simp only [Bool.and_eq_true] at hs
              cases tg <;> first | cases ht | skip
              exact imI_zip G.hK (gl_of G hg) (free_of G hf) hs.1 hs.2 (ih.A E _ G) (ih.A E _ G)
            · exact imI_bad
          · exact imI_bad
        · exact imI_seq G.hK (ih.A E _ G)
  · exact imI_bad
  · exact imI_seq G.hK (ih.A E _ G)
/-- a comprehension -/
theorem im_lc {n : Nat} (ih : Sound W c N k n) {X : L2.Cx} {sc bsc : Scope} (E : XK) {elt tg it : Expr} {ifs : List Expr} {pos : Pos} {t : Tgt} (G : Good X W c N sc k) (hb : L2.blkC N sc bsc (ownOf N bsc) = true) (ht : tgt ⟨c, N, callD c k⟩ bsc tg = some t)
    (hsl : t.sl.all ((ownOf N bsc).map (·.2)).contains = true) (hset : isSetE it = false) :
    PE X (.ListComp elt [⟨tg, it, ifs, 0⟩] bsc pos) (tLc (tIt W E (denI ⟨c, N, callD c k⟩ n sc tg it)) (tG W t) (tT W E0 (testsD (ifs.map (denT ⟨c, N, callD c k⟩ n (L2.relS bsc sc))))) (tI W E0 (den ⟨c, N, callD c k⟩ n (L2.relS bsc sc) elt)) ((ownOf N bsc).map (·.2))) := by
  have ok : BlkOk X.N X.env.scope bsc (ownOf N bsc) := by rw [G.hN, G.hsc]; exact L2.blkOk_by hb
  refine pe_lc G.calm (by rw [G.hN]; exact G.nd) (ih.I E tg it G) ok (fun s H C cl fp => ?_) (fun s H C cl fp => ?_) (fun s H C cl fp => ?_) (folded_no hset)
  · exact (pg_tgt (good_blk G ok.kind s H C cl fp).hK G.calm (stores_blk G s H C cl fp) ht).1
  · cases ifs with
    | nil => exact ⟨fun pins s σ H Q I ⟨ρ, δ, M, s', m, p⟩ => pts_nil.run pins s σ H Q I (Post.here p m rfl)⟩
    | cons a r =>
      cases r with
      | nil => exact pts_one (ih.T E0 a (good_blk G ok.kind s H C cl fp))
      | cons b r => exact ⟨fun pins s σ H Q I ⟨ρ, δ, M, s', m, p⟩ => False.elim p⟩
  · exact ih.A E0 elt (good_blk G ok.kind s H C cl fp)
end
end Ev
set_option Elab.async false
set_option linter.all false
set_option maxRecDepth 100000
set_option maxHeartbeats 4000000
/-! Es16: every expression, every statement, every def. -/
namespace Ev
open PySem PySem.Spec PyProof.Rows L2
section
variable {W : Wd} {c : Cfg} {N : List Str} {k : Nat}
theorem soundA {n : Nat} (ih : Sound W c N k n) {X : L2.Cx} {sc : Scope} (E : XK) (e : Expr) (G : Good X W c N sc k) : Im X W E e (den ⟨c, N, callD c k⟩ (n + 1) sc e) := by
  have args : ∀ es : List Expr, ImA X W E es (eL (es.map (denS ⟨c, N, callD c k⟩ n sc))) := fun es => imA G.hK _ es fun e _ => ih.S E e G
  have kws : ∀ ks : List Keyword, ∀ q ∈ ks, Im X W E q.value (den ⟨c, N, callD c k⟩ n sc q.value) := fun ks q _ => ih.A E _ G
  unfold den
  split
  · exact im_const
  · exact im_name G
  · exact im_binop G.hK (ih.A E _ G) (ih.A E _ G)
  · exact im_not G.hK (ih.A E _ G)
  · exact im_neg (ih.A E _ G)
  · exact im_bool G.hK _ _ fun e _ => ih.A E e G
  · exact im_if (ih.T E _ G) (ih.A E _ G) (ih.A E _ G)
  · split
    · exact im_bad
    · rename_i h
      exact im_cmp G.same (units65 G.room) (by simpa using h) (ih.A E _ G) (ih.A E _ G)
  · split
    · exact im_bad
    · rename_i h
      exact im_cmp2 G.same (units65 G.room) (by simpa using h) (ih.A E _ G) (ih.A E _ G) (ih.A E _ G)
  · exact im_tup (args _)
  · exact im_lst (args _)
  · exact im_dict0
  · exact im_sl G.hK (ih.A E _ G) (ih.O E _ G) (ih.O E _ G)
  · split
    · exact im_bad
    · rename_i h
      exact im_ix G.same (units65 G.room) (by simpa using h) (ih.A E _ G) (ih.A E _ G)
  · rename_i elt tg it ifs bsc pos
    split
    · rename_i hb
      unfold optE
      split
      · rename_i t ht
        dsimp only
        split
        · exact im_bad
        · rename_i hsl0
          have hsl : t.sl.all ((ownOf N bsc).map (·.2)).contains = true := by
            cases hq : t.sl.all ((ownOf N bsc).map (·.2)).contains with
            | true => rfl
            | false => rw [hq] at hsl0; exact absurd rfl hsl0
          cases hset : isSetE it with
          | true =>
            cases it <;> first | cases hset | skip
            refine ⟨fun pins s σ H Q I ⟨ρ, δ, M, s', m, p⟩ => ?_⟩
            have p' : Post W (Rep W) ρ H .bad Q E := by
              cases n <;> exact p
            exact False.elim p'
          | false => exact PEimp (im_lc ih E G hb ht hsl hset) fun σ H Q h => lc_law (fun i hi => by simpa using List.all_eq_true.mp hsl i hi) h
      · exact im_bad
    · exact im_bad
  · rename_i x p as ks pos
    split
    · exact im_bad
    · rename_i h
      simp only [Bool.or_eq_true, Bool.not_eq_true', not_or, Bool.not_eq_true, Bool.not_eq_false] at h
      obtain ⟨ho, hs⟩ := h
      split
      · rename_i hl
        unfold optE
        split
        · rename_i i hi
          split
          · rename_i kn hkn
            exact im_callL G (by rw [G.hN]; exact ixOf_at hi) (by rw [G.hsc]; exact loc_vis hl) ho hs hkn (args _) (kws _) (by simp)
          · exact im_bad
        · exact im_bad
      · split
        · exact im_bad
        · rename_i hg
          have hg := gl_of G (by simpa using hg)
          split
          · rename_i fi hfi
            unfold optE
            split
            · rename_i kn hkn
              exact im_call G hfi hg ho hs hkn (args _) (kws _) (by simp)
            · exact im_bad
          · split
            · exact im_bad
            · rename_i hfk
              simp only [Bool.or_eq_true, Bool.not_eq_true', not_or, Bool.not_eq_true, Bool.not_eq_false, List.isEmpty_iff] at hfk
              obtain ⟨hf, rfl⟩ := hfk
              split
              · split
                · rename_i h
                  simp only [Bool.and_eq_true, decide_eq_true_eq] at h
                  obtain ⟨⟨⟨⟨rfl, rfl⟩, hg2⟩, hf2⟩, hs2⟩ := h
                  split
                  · simp only [List.all_cons, List.all_nil, Bool.and_true] at hs2
                    exact im_tupRg1 G.calm hg (free_of G hf) (gl_of G hg2) (free_of G hf2) hs2 (ih.A E _ G)
                  · simp only [List.all_cons, List.all_nil, Bool.and_true, Bool.and_eq_true] at hs2
                    exact im_tupRg2 G.calm hg (free_of G hf) (gl_of G hg2) (free_of G hf2) hs2.1 hs2.2 (ih.A E _ G) (ih.A E _ G)
                  · exact im_bad
                · exact ih.B E x _ p pos G hg hf hs
              · exact ih.B E x _ p pos G hg hf hs
  · rename_i o m apos as pos
    split
    · exact im_bad
    · rename_i h
      simp only [Bool.or_eq_true, Bool.not_eq_true', not_or, Bool.not_eq_true, Bool.not_eq_false] at h
      split
      · split
        · rename_i hm
          subst hm
          exact im_bits h.1 h.2 (ih.A E _ G)
        · exact im_bad
      · split
        · exact im_bad
        · rename_i hs
          split
          · rename_i hm
            subst hm
            exact im_append G.hK h.1 h.2 (by simpa using hs) (ih.A E _ G) (ih.A E _ G)
          · exact im_bad
      · exact im_bad
  · exact im_bad
theorem sound : ∀ n, Sound W c N k n
  | 0 => sound0
  | n + 1 => ⟨fun E e G => soundA (sound n) E e G, fun E e G => soundT (sound n) E e G, fun E e G => soundS (sound n) E e G, fun E e G => soundO (sound n) E e G, fun E tg e G => soundI (sound n) E tg e G, fun E x as p pos G hg hf hs => soundB (sound n) E x as p pos G hg hf hs⟩
end
end Ev
set_option Elab.async false
set_option linter.all false
set_option maxRecDepth 100000
set_option maxHeartbeats 4000000
/-! Es17: every statement, every def does what it means. -/
namespace Ev
open PySem PySem.Spec PyProof.Rows L2
section
variable {W : Wd} {c : Cfg} {N : List Str} {k : Nat}
theorem imS_void {X : L2.Cx} {E : XK} {st : Stmt} {d : DenS} (h : ∀ δ M, d δ M = .bad) : ImSt X W E st d := ⟨fun pins s σ H D I ⟨ρ, δ, M, _, _, p⟩ => by rw [h] at p; exact False.elim p⟩
theorem swap_lc {elt : Expr} {gs : List Comprehension} {bsc : Scope} {lp py : Pos} {y : Str} {l : Nat} {env : Env} :
    swapsWith (.ListComp elt gs bsc lp) (some (.Name y py)) l env = pure (env.blockKind == .function && env.kindOf y == some .local && py.line == lp.line && !(bsc.names.any fun (n, k) => n == y && (k == .local || k == .cell))) := rfl
theorem swap_set {tg e : Expr} {l : Nat} {env : Env} (h : ∀ x p, tg ≠ .Name x p) : swapsWithSole [tg] e l env = pure false := by
  show swapsWith e (some tg) l env = pure false
  cases e <;> first | rfl | (cases tg <;> first | rfl | exact absurd rfl (h _ _))
theorem stores_tup {tg e : Expr} {env : Env} (h : ∀ a b p, tg ≠ .Tuple a b p) (h2 : ∀ a p, tg ≠ .List a p) : swappedStores [tg] e env = pure none := by
  cases tg <;> first | rfl | exact absurd rfl (h _ _ _) | exact absurd rfl (h2 _ _)
theorem stores_val {ts : List Expr} {kk : Nat} {p : Pos} {e : Expr} {env : Env} (h : ∀ a b p, e ≠ .Tuple a b p) : swappedStores [.Tuple ts kk p] e env = pure none := by
  cases e <;> first | rfl | exact absurd rfl (h _ _ _)
theorem den_lc1 {n : Nat} {call : Str → List D → Mem → Res D} {sc bsc : Scope} {elt tg it : Expr} {ifs : List Expr} {pos : Pos} : den ⟨c, N, call⟩ (n + 1) sc (.ListComp elt [⟨tg, it, ifs, 0⟩] bsc pos) = (if L2.blkC N sc bsc (ownOf N bsc) then
        optE (tgt ⟨c, N, call⟩ bsc tg) fun t => if !t.sl.all ((ownOf N bsc).map (·.2)).contains then eBad else eLc (c.hints.contains pos) ((ownOf N bsc).map (·.2)) (denI ⟨c, N, call⟩ n sc tg it) t (testsD (ifs.map (denT ⟨c, N, call⟩ n (L2.relS bsc sc)))) (den ⟨c, N, call⟩ n (L2.relS bsc sc) elt)
      else eBad) := rfl
/-- name = [..] -/
theorem imS_lc {X : L2.Cx} {sc bsc : Scope} (G : Good X W c N sc k) (S : Stores X N sc) {n i : Nat} {y : Str} {py lp spos : Pos} {elt tg it : Expr} {ifs : List Expr} (hi : tgN ⟨c, N, callD c k⟩ sc (.Name y py) = some i) :
    ImSt X W E0 (.Assign [.Name y py] (.ListComp elt [⟨tg, it, ifs, 0⟩] bsc lp) spos) (sSet (.nm i) (den ⟨c, N, callD c k⟩ (n + 1) sc (.ListComp elt [⟨tg, it, ifs, 0⟩] bsc lp))) := by
  have sd := sound (W := W) (c := c) (N := N) (k := k)
  obtain ⟨gn, nn⟩ := pg_nm S hi
  have gt : PG X (.Name y py) (tG W (.nm i)) := (pg_tgt (c := ⟨c, N, callD c k⟩) (t := .nm i) G.hK G.calm S (by show (tgN _ sc (.Name y py)).map Tgt.nm = _; rw [hi]; rfl)).1
  cases hb : (X.env.blockKind == .function && X.env.kindOf y == some .local && py.line == lp.line && !(bsc.names.any fun (n, k) => n == y && (k == .local || k == .cell))) with
  | false =>
    refine imS_asg gt nn ((sd (n + 1)).A E0 _ G) ?_ rfl
    show swapsWith (.ListComp elt [⟨tg, it, ifs, 0⟩] bsc lp) (some (.Name y py)) spos.line X.env = pure false
    rw [swap_lc, hb]
  | true =>
    have hsw : swapsWith (.ListComp elt [⟨tg, it, ifs, 0⟩] bsc lp) (some (.Name y py)) spos.line X.env = pure true := by rw [swap_lc, hb]
    simp only [Bool.and_eq_true, beq_iff_eq] at hb
    have hyl : X.env.scope.names.lookup y = some .local := hb.1.1.2
    have hiN : X.N[i]? = some y := by
      have h' : (if isSt sc y then ixOf N y else none) = some i := hi
      split at h'
      · rw [G.hN]; exact ixOf_at h'
      · cases h'
    rw [den_lc1]
    split
    · rename_i hblk
      unfold optE
      split
      · rename_i t ht
        dsimp only
        split
        · exact imS_void fun _ _ => rfl
        · rename_i hsl0
          have hsl : t.sl.all ((ownOf N bsc).map (·.2)).contains = true := by
            cases hq : t.sl.all ((ownOf N bsc).map (·.2)).contains with
            | true => rfl
            | false => rw [hq] at hsl0; exact absurd rfl hsl0
          cases hset : isSetE it with
          | true =>
            cases it <;> first | cases hset | skip
            refine imS_void fun δ M => ?_
            cases n <;> rfl
          | false =>
            have ok : BlkOk X.N X.env.scope bsc (ownOf N bsc) := by rw [G.hN, G.hsc]; exact L2.blkOk_by hblk
            refine PSimp (ps_setLc (wi := tIt W E0 (denI ⟨c, N, callD c k⟩ n sc tg it)) (g := tG W t) (tt := tT W E0 (testsD (ifs.map (denT ⟨c, N, callD c k⟩ n (L2.relS bsc sc))))) (te := tI W E0 (den ⟨c, N, callD c k⟩ n (L2.relS bsc sc) elt))
              G.calm (by rw [G.hN]; exact G.nd) hiN hyl hsw ((sd n).I E0 tg it G) ok (fun s H C cl fp => ?_) (fun s H C cl fp => ?_) (fun s H C cl fp => ?_) (folded_no hset)) fun D σ H h => ?_
            · exact (pg_tgt (good_blk G ok.kind s H C cl fp).hK G.calm (stores_blk G s H C cl fp) ht).1
            · cases ifs with
              | nil => exact ⟨fun pins s σ H Q I ⟨ρ, δ, M, s', m, p⟩ => pts_nil.run pins s σ H Q I (Post.here p m rfl)⟩
              | cons a r =>
                cases r with
                | nil => exact pts_one ((sd n).T E0 a (good_blk G ok.kind s H C cl fp))
                | cons b r => exact ⟨fun pins s σ H Q I ⟨ρ, δ, M, s', m, p⟩ => False.elim p⟩
            · exact (sd n).A E0 elt (good_blk G ok.kind s H C cl fp)
            · obtain ⟨ρ, δ, M, s, m, p⟩ := h
              exact lc_law (fun i hi => by simpa using List.all_eq_true.mp hsl i hi) ⟨ρ, δ, M, s, m, seqS p fun ρ1 H1 a b M1 x1 m1 r1 p1 => PostS.nxt p1 m1 ((s.ext x1).set r1 i)⟩
      · exact imS_void fun _ _ => rfl
    · exact imS_void fun _ _ => rfl
theorem den_lc0 {Y : Ecx} {n : Nat} {sc bsc : Scope} {elt : Expr} {gs : List Comprehension} {lp : Pos} (h : ∀ tg it ifs, gs ≠ [⟨tg, it, ifs, 0⟩]) : den Y (n + 1) sc (.ListComp elt gs bsc lp) = eBad := by
  generalize he : Expr.ListComp elt gs bsc lp = e
  unfold den
  split <;> first | rfl | cases he
  exact absurd rfl (h _ _ _)
/-- name = .. -/
theorem imS_name {X : L2.Cx} {sc : Scope} (G : Good X W c N sc k) (S : Stores X N sc) {n i : Nat} {y : Str} {py spos : Pos} {e : Expr} (hi : tgN ⟨c, N, callD c k⟩ sc (.Name y py) = some i) : ImSt X W E0 (.Assign [.Name y py] e spos) (sSet (.nm i) (den ⟨c, N, callD c k⟩ (n + 1) sc e)) := by
  by_cases hc : notComp e = true
  · refine imS_asg (pg_tgt (c := ⟨c, N, callD c k⟩) (t := .nm i) G.hK G.calm S (by show (tgN _ sc (.Name y py)).map Tgt.nm = _; rw [hi]; rfl)).1 rfl ((sound (n + 1)).A E0 _ G) (show swapsWith e (some (.Name y py)) spos.line X.env = pure false from swaps_no hc) rfl
  · cases e <;> first | exact absurd rfl hc | skip
    · rename_i elt gs bsc lp
      by_cases hg : ∃ tg it ifs, gs = [⟨tg, it, ifs, 0⟩]
      · obtain ⟨tg, it, ifs, rfl⟩ := hg
        exact imS_lc G S hi
      · rw [den_lc0 fun tg it ifs e => hg ⟨tg, it, ifs, e⟩]
        exact imS_void fun _ _ => rfl
    · exact imS_void fun _ _ => rfl
    · exact imS_void fun _ _ => rfl
theorem swap_at {sc : Scope} {ts vs : List Expr} {kk k2 : Nat} {p p2 : Pos} {env : Env} {r : Option (List Str)} (hs : env.scope = sc) (hk : sc.kind = .function) (h : swapS sc ts vs = some r) : swappedStores [.Tuple ts kk p] (.Tuple vs k2 p2) env = pure r := by
  have hb : env.blockKind = .function := by
    unfold Env.blockKind
    rw [hs, hk]
    rfl
  have hany : ∀ f : Expr → Bool, (∀ v, f v = !noStar v) → vs.any f = !vs.all noStar := fun f hf => by
    rw [List.not_all_eq_any_not]
    congr 1
    funext v
    exact hf v
  have hnm : ∀ (l : Nat) (f : Expr → Option Str), (∀ x, f x = nmF sc l x) → ts.filterMap f = ts.filterMap (nmF sc l) := fun l f hf => by
    congr 1
    funext v
    exact hf v
  unfold swapS at h
  unfold swappedStores
  have e0 : (ScopeKind.function != ScopeKind.function) = false := rfl
  simp only [hb, Env.kindOf, hs, e0, Bool.or_false]
  rw [hany _ (fun v => by cases v <;> rfl), hnm ((ts.head?.map (·.pos.line)).getD 0) _ (fun v => by cases v <;> rfl)]
  change _ = some r at h
  by_cases h1 : (!(ts.length == 2 || ts.length == 3) || vs.length != ts.length) = true
  · rw [if_pos h1] at h ⊢
    cases h
    rfl
  · rw [if_neg h1] at h ⊢
    by_cases h2 : (!vs.all noStar) = true
    · rw [if_pos h2] at h ⊢
      cases h
      rfl
    · rw [if_neg h2] at h ⊢
      show (if ((swapN sc ts).length != ts.length || (swapN sc ts).eraseDups.length != (swapN sc ts).length) = true then _ else _) = _
      by_cases h3 : ((swapN sc ts).length != ts.length || (swapN sc ts).eraseDups.length != (swapN sc ts).length) = true
      · rw [if_pos h3] at h ⊢
        cases h
        rfl
      · rw [if_neg h3] at h ⊢
        by_cases h4 : vs.all (foldedForSure 8) = true
        · rw [if_pos h4] at h ⊢
          cases h
          rfl
        · rw [if_neg h4] at h ⊢
          by_cases h5 : vs.all (constantsAlone 8) = true
          · rw [if_pos h5] at h
            cases h
          · rw [if_neg h5] at h ⊢
            cases h
            rfl
end
end Ev
set_option Elab.async false
set_option linter.all false
set_option maxRecDepth 100000
set_option maxHeartbeats 4000000
/-! Es18: every statement, every def does what it means. -/
namespace Ev
open PySem PySem.Spec PyProof.Rows L2
section
variable {W : Wd} {c : Cfg} {N : List Str} {k : Nat}
structure SoundS (W : Wd) (c : Cfg) (N : List Str) (k n : Nat) : Prop where
  one : ∀ {X : L2.Cx} {sc : Scope} (st : Stmt), Good X W c N sc k → Stores X N sc → PassesOwn (model X.prog X.w) X.A X.env X.xe → ImSt X W E0 st (denSt ⟨c, N, callD c k⟩ n sc st)
  all : ∀ {X : L2.Cx} {sc : Scope} (st : List Stmt), Good X W c N sc k → Stores X N sc → PassesOwn (model X.prog X.w) X.A X.env X.xe → ImSts X W E0 st (denSts ⟨c, N, callD c k⟩ n sc st)
theorem tgN_pos {Y : Ecx} {sc : Scope} {y : Str} {p q : Pos} : tgN Y sc (.Name y p) = tgN Y sc (.Name y q) := rfl
theorem soundSt {n : Nat} (ih : SoundS W c N k n) {X : L2.Cx} {sc : Scope} (st : Stmt) (G : Good X W c N sc k) (S : Stores X N sc) (hp : PassesOwn (model X.prog X.w) X.A X.env X.xe) : ImSt X W E0 st (denSt ⟨c, N, callD c k⟩ (n + 1) sc st) := by
  have sd := sound (W := W) (c := c) (N := N) (k := k) Ev.fd
  have S' : ∀ call, Stores X (⟨c, N, call⟩ : Ecx).N sc := fun _ => S
  unfold denSt
  split
  · rename_i y p e spos
    split
    · rename_i i hi
      exact imS_name (n := 59) G S hi
    · exact imS_bad
  · rename_i o i p e spos
    split
    · exact imS_bad
    · rename_i h
      exact imS_setIx G.same (units65 G.room) (by simpa using h) (sd.A E0 _ G) (sd.A E0 _ G) (sd.A E0 _ G)
  · rename_i ts kk p e spos
    split
    · rename_i vs k2 p2
      split
      · rename_i hsw
        split
        · rename_i t ht
          obtain ⟨g, gn⟩ := pg_tgt (W := W) G.hK G.calm S ht
          exact imS_asg g gn (sd.A E0 _ G) (swap_set fun x p => by intro h; cases h) (swap_at G.hsc G.kind hsw)
        · exact imS_bad
      · rename_i x y x' px y' py v1 v2 hsw
        split
        · rename_i h
          simp only [Bool.and_eq_true, decide_eq_true_eq] at h
          obtain ⟨⟨⟨⟨⟨⟨rfl, rfl⟩, hx⟩, hy⟩, hne⟩, n1⟩, n2⟩ := h
          split
          · rename_i i j hi hj
            have hi' := ixOf_at hi
            have hj' := ixOf_at hj
            refine imS_par G.calm (by rw [G.hN]; exact G.nd) (by rw [G.hN]; exact hi') (by rw [G.hN]; exact hj') (fun z => hne ?_) (by rw [G.hsc]; exact hx) (by rw [G.hsc]; exact hy) (sd.A E0 _ G) (sd.A E0 _ G) n1 n2 (swap_at G.hsc G.kind hsw)
            subst z
            rw [hi'] at hj'
            exact Option.some.inj hj'
          · exact imS_bad
        · exact imS_bad
      · exact imS_bad
    · rename_i hne
      split
      · rename_i t ht
        obtain ⟨g, gn⟩ := pg_tgt (W := W) G.hK G.calm S ht
        exact imS_asg g gn (sd.A E0 _ G) (swap_set fun x p => by intro h; cases h) (stores_val fun a b p => by intro h; exact hne _ _ _ h)
      · exact imS_bad
  · exact imS_ret (sd.A E0 _ G)
  · exact imS_retN
  · split
    · exact imS_bad
    · rename_i h
      exact imS_drop (by simpa using h) (sd.A E0 _ G)
  · exact imS_if (sd.T E0 _ G) (ih.all _ G S hp) (ih.all _ G S hp)
  · rename_i tg it body pos
    split
    · rename_i t ht
      obtain ⟨g, gn⟩ := pg_tgt (W := W) G.hK G.calm S ht
      cases hset : isSetE it with
      | true =>
        cases it <;> first | cases hset | skip
        exact imS_void fun _ _ => rfl
      | false => exact imS_for hp G.calm (sd.I E0 _ _ G) g (ih.all _ G S hp) (folded_no hset)
    · exact imS_bad
  · exact imS_while hp (sd.T E0 _ G) (ih.all _ G S hp)
  · exact imS_pass
  · exact imS_break
  · exact imS_continue
  · exact imS_bad
theorem soundSts {n : Nat} (ih : SoundS W c N k n) {X : L2.Cx} {sc : Scope} (st : List Stmt) (G : Good X W c N sc k) (S : Stores X N sc) (hp : PassesOwn (model X.prog X.w) X.A X.env X.xe) : ImSts X W E0 st (denSts ⟨c, N, callD c k⟩ (n + 1) sc st) := by
  cases st with
  | nil => exact imSs_nil
  | cons a r =>
    cases r with
    | nil => exact imSs_one (ih.one _ G S hp)
    | cons b r => exact imSs_cons (ih.one _ G S hp) (ih.all _ G S hp)
theorem soundAll : ∀ n, SoundS W c N k n
  | 0 => ⟨fun st _ _ _ => by unfold denSt; exact imS_bad, fun st _ _ _ => by unfold denSts; exact imSs_bad⟩
  | n + 1 => ⟨fun st G S hp => soundSt (soundAll n) st G S hp, fun st G S hp => soundSts (soundAll n) st G S hp⟩
end
/-- every def of the text does what it means, k calls deep -/
theorem all_ok {P : Program} {w : World} {W : Wd} {base : Heap} {c : Cfg} (hP : P = W.prog) (hw : w = W.w) (Kn : Known W c) : ∀ k x fi, c.fns.lookup x = some fi → ∀ f fdt dv, FunAt W x fi f fdt dv → FnG P w W base k f fdt fi.params (spD W c k x)
  | 0 => fun x fi hx f fdt dv F A outer s H args us vs Q E _ _ _ _ _ ⟨ρ, M, ds, _, _, p⟩ => False.elim p
  | k + 1 => fun x fi hx f fdt dv F => fn_g hP hw Kn hx F (all_ok hP hw Kn k) fun X _ _ _ G S hp => (soundAll Ev.fd).all _ G S hp
end Ev
set_option Elab.async false
set_option linter.all false
set_option maxRecDepth 100000
set_option maxHeartbeats 4000000
/-! Es19: a law's end: from what the evaluator says of the law's def to the statement. -/
namespace Ev
open PySem PySem.Spec PyProof.Rows L2
/-- the script alone is tracked -/
structure Scr (K : PySem.W.Frag) (a : Addr) (ob : Obj) (xs : List V) (H : Hp) : Prop where
  here : ∀ b, H b = none ∨ (b = a ∧ K.lookup a = none ∧ H b = some (.frz ob (.lst xs)))
  sq : SqL K H a xs
theorem scr_ex {K : PySem.W.Frag} {h : Heap} {a : Addr} {vs : List Value} {xs : List V} (X : K.In h) (ha : h.get? a = some { cls := .type "list", data := .seq vs.toArray }) (r : Vals xs vs) (hl : xs.length ≤ sizeLine) : ∃ H, Scr K a { cls := .type "list", data := .seq vs.toArray } xs H := by
  cases e : K.lookup a with
  | some o =>
    have eo := X a o e
    rw [ha] at eo
    cases eo
    exact ⟨fun _ => none, fun b => .inl rfl, .inr ⟨_, vs.toArray, _, e, rfl, rfl, rfl, by rw [List.size_toArray, ← r.length]; exact hl, by simpa using r⟩⟩
  | none =>
    refine ⟨fun b => if b = a then some (.frz { cls := .type "list", data := .seq vs.toArray } (.lst xs)) else none, fun b => ?_, .inl (.inr ⟨_, if_pos rfl⟩)⟩
    by_cases hb : b = a
    · exact .inr ⟨hb, e, if_pos hb⟩
    · exact .inl (if_neg hb)
section
variable {P : Program} {w : World} {W : Wd} {s : Shared} {a : Addr} {vs : List Value} {xs : List V} {H : Hp}
theorem Scr.ok (S : Scr W.K a { cls := .type "list", data := .seq vs.toArray } xs H) (ha : s.heap.get? a = some { cls := .type "list", data := .seq vs.toArray }) (r : Vals xs vs) (hl : xs.length ≤ sizeLine) : HOk P w H s.heap := fun b u hu => by
  rcases S.here b with e | ⟨rfl, _, e⟩
  · rw [e] at hu; cases hu
  · rw [e] at hu
    cases hu
    exact ⟨ha, hl, vs, _, r, ha⟩
theorem Scr.free (S : Scr W.K a { cls := .type "list", data := .seq vs.toArray } xs H) (ha : s.heap.get? a = some { cls := .type "list", data := .seq vs.toArray }) {b : Addr} {o : Obj} (h : s.heap.get? b = some o) (hd : ∀ its n, o.data ≠ .seq its n) : H b = none := by
  rcases S.here b with e | ⟨rfl, _, e⟩
  · exact e
  · rw [ha] at h
    cases h
    exact absurd rfl (hd _ _)
theorem Scr.ns (S : Scr W.K a { cls := .type "list", data := .seq vs.toArray } xs H) (ha : s.heap.get? a = some { cls := .type "list", data := .seq vs.toArray }) {b : Addr} {m : Str → Option Value} (h : s.heap.Ns b m) : (hidT s.heap H).Ns b m := by
  obtain ⟨o, es, ep, e, d, r⟩ := h
  exact ⟨o, es, ep, hidT_get e (S.free ha e fun its n z => by rw [d] at z; cases z), d, r⟩
theorem Scr.mod (S : Scr W.K a { cls := .type "list", data := .seq vs.toArray } xs H) (ha : s.heap.get? a = some { cls := .type "list", data := .seq vs.toArray }) {mb : Str → Option Value} (X : W.K.In s.heap) (g : s.heap.Ns mainGlobals W.mg) (b : s.heap.Ns builtinsNs mb) (hbb : ∀ x : Str, x ≠ "__name__" → mb x = bootBuiltins x) (lim : s.heap.NoLimit) :
    Mod W.K W.mg (hidT s.heap H) := by
  refine ⟨fun c o e => hidT_get (X c o e) ?_, S.ns ha g, ⟨mb, S.ns ha b, hbb⟩, ?_⟩
  · rcases S.here c with e' | ⟨rfl, e2, _⟩
    · exact e'
    · rw [e2] at e; cases e
  · obtain ⟨mc, h1, h2⟩ := lim
    exact ⟨mc, S.ns ha h1, h2⟩
/-- the law's call -/
theorem law_g {mb : Str → Option Value} {k : Nat} {fa : Addr} {fdt : FuncData} {x : Str} {sp : List V → Hp → VK → Prop} {ns : List Int} (X : W.K.In s.heap) (g : s.heap.Ns mainGlobals W.mg) (b : s.heap.Ns builtinsNs mb) (hbb : ∀ x : Str, x ≠ "__name__" → mb x = bootBuiltins x) (lim : s.heap.NoLimit) (hg : s.gens = #[])
    (ha : s.heap.get? a = some { cls := .type "list", data := .seq vs.toArray }) (hi : IntsAre vs ns) (hl : ns.length ≤ sizeLine) (hr : Room k callerA) (hgd : callerA.guards = some [])
    (F : ∀ base : Heap, FnG P w W base k fa fdt [x] sp) (hbind : ∀ (s : Shared) (u : Value), W.K.In s.heap → BindsTo s fdt ⟨[u], []⟩ [(x, u)])
    (hsp : ∀ H : Hp, SqL W.K H a (ns.map V.int) → sp [.ref a] H fun v _ => v = .bl true) :
    codeAny (model P w) callerA (.call (.ref fa) ⟨[.ref a], []⟩) (fun r s' => r = .ok (.ret (.bool true)) ∧ OldK s.heap s'.heap ∧ s'.os = s.os ∧ AllBare s'.gens) s := by
  have rv := vals_ints hi
  have hl' : (ns.map V.int).length ≤ sizeLine := by rw [List.length_map]; exact hl
  obtain ⟨H, S⟩ := scr_ex X ha rv hl'
  have start : Env0 P w W.K W.mg (hidT s.heap H) callerA [] s H :=
    { frames := rfl, mod := S.mod ha X g b hbb lim, bs := fun _ _ e => of_hidT e, bsz := Nat.le_of_eq (hidT_size _ _), funs := trivial, frf := fun c hc => (by cases hc), hok := S.ok ha rv hl', bare := .of_eq hg }
  refine codeAny_mono (F (hidT s.heap H) callerA [] s H ⟨[.ref a], []⟩ [.ref a] [.ref a] (fun v _ => v = .bl true) E0 hr hgd start (hbind s (.ref a) X) (.cons rfl .nil) (hsp H S.sq)) fun r s' h => ?_
  match r, h with
  | .ok (.ret u), h =>
    obtain ⟨v, H', os, bare, un, hok', r', q⟩ := h
    subst q
    cases r'
    refine ⟨rfl, OldK.of_keep fun c o e => ?_, os, bare⟩
    rcases S.here c with e1 | ⟨rfl, _, e1⟩
    · exact un.keep c o e e1 (fun z => by cases z) (by simp)
    · obtain ⟨e2, _⟩ := hok' c _ (un.frzs c _ _ e1)
      rw [ha] at e
      cases e
      exact e2
end
theorem guards_caller : callerA.guards = some [] := rfl
/-- a law: F gives the written part, what is known of the module, the law's def -/
theorem walk_ev {l : PySem.W.OpenLaw} {n k : Nat} {q : Program} {loose : List Str} {XP : (Str → Option Value) → Heap → Prop} {YP : World → Heap → Prop} {d : DefRec} {c : Cfg} {fi : FnI} {x : Str}
    (hn : l.most = some n) (hn2 : n ≤ sizeLine) (hdf : d.params.defaults = []) (hr : Room k callerA) (hx : c.fns.lookup d.name = some fi) (hp : fi.params = [x]) (hd : fi.dfl = [])
    (F : ∀ (w : World) (mg : Str → Option Value) (fa : Addr) (h : Heap), YP w h → h.Ns mainGlobals mg → mg d.name = some (.ref fa) → ∃ K : PySem.W.Frag, K.In h ∧ Known ⟨K, mg, l.prog, w⟩ c)
    (hmain : ∀ ns : List Int, ns.length ≤ n → (∀ i ∈ ns, Builtin.Int.intBits i ≤ 1048576) → ∃ M, callD c k d.name [.frz (ns.map D.int)] [] = .ok (.bl true) M) :
    PySem.W.WalkO q loose XP YP l.row.toRowW d [] (fun f vs => PySem.call f vs) := by
  refine Att.attach_callB hn hdf fun w s₀ s₁ mg mb fa o pm cd doc a vs ns G Y ho hdt hcd hmg hobj hints hlen hbits hg => ?_
  obtain ⟨K, KX, kn⟩ := F w mg fa _ Y G.T.g hmg
  obtain ⟨f, fdt, dv, FA⟩ := kn.fns _ _ hx
  have ef : f = fa := by
    have := FA.mg.symm.trans hmg
    cases this
    rfl
  subst ef
  obtain ⟨nm, qual, args, d1, d2, FD, hps⟩ := FA.ex
  have dv0 : dv = [] := by
    have := FA.dfl ⟨[], []⟩ (fun _ => none)
    rw [hd] at this
    exact this
  have ndp : fi.params.Nodup := by rw [← FA.sc.pre]; exact FA.sc.nd.sublist (List.take_sublist _ _)
  obtain ⟨du, hdu, hb⟩ := binds_of FD hps ndp (by rw [dv0]; exact Nat.zero_le _)
  have du0 : du = [] := by
    rw [dv0] at hdu
    cases hdu
    rfl
  refine law_g (P := l.prog) (w := w) (W := ⟨K, mg, l.prog, w⟩) (k := k) (fdt := fdt) (x := x) (sp := spD ⟨K, mg, l.prog, w⟩ c k d.name) KX G.T.g G.T.b G.T.builtins G.T.nolimit hg hobj hints (Nat.le_trans hlen hn2) hr guards_caller (fun base => ?_) (fun s u X => ?_) fun H hS => ?_
  · have := all_ok (P := l.prog) (w := w) (base := base) rfl rfl kn k _ _ hx _ _ _ FA
    rw [hp] at this
    exact this
  · have := hb s [u] [u] [] X (by rw [du0, hp]; rfl) (fun kv h => by cases h) List.nodup_nil
    rw [hp] at this
    exact this
  · obtain ⟨M, e⟩ := hmain ns hlen hbits
    refine ⟨⟨[], []⟩, [], [.frz (ns.map D.int)], ⟨rfl, fun n a h => by simp at h, fun n o h => by simp at h, fun n m a h => by simp at h, fun a h => by cases h⟩, ⟨.ref a, [], rfl, ⟨a, ns.map V.int, rfl, ?_, ?_⟩, rfl⟩, ?_⟩
    · have no : ¬ Own ⟨[], []⟩ a := fun z => by rcases z with z | z <;> cases z
      rcases hS with (h | ⟨o, h⟩) | h
      · exact .inl (.inl ⟨h, no⟩)
      · exact .inl (.inr ⟨o, h, no⟩)
      · exact .inr h
    · clear e hbits hlen hints hS hobj
      induction ns with
      | nil => rfl
      | cons i ns ih => exact ⟨.int i, _, rfl, rfl, ih⟩
    · rw [e]
      exact fun ρ' v H' _ _ r => r
end Ev
set_option Elab.async false
set_option linter.all false
set_option maxRecDepth 100000
set_option maxHeartbeats 4000000
/-! Es20: what the head tells of the module. -/
namespace Ev
open PySem PySem.Spec PyProof.Rows L2
/-! ### constants -/
def all2 {α β : Type} (f : α → β → Bool) : List α → List β → Bool
  | [], [] => true
  | a :: r, b :: s => f a b && all2 f r s
  | _, _ => false
def valC (K : PySem.W.Frag) : Nat → D → Value → Bool
  | 0, _, _ => false
  | n + 1, d, u => match d, u with
    | .non, .none => true
    | .bl a, .bool b => a == b
    | .int i, .int j _ => decide (i = j)
    | .str x, .str y _ => decide (x = y)
    | .tup ds, .ref a => (match K.lookup a with
      | some ⟨.type cl, _, .seq its _, _⟩ => decide (cl = "tuple") && decide (its.size ≤ sizeLine) && all2 (valC K n) ds its.toList
      | _ => false)
    | _, _ => false
theorem all2_rep {W : Wd} {f : D → Value → Bool} (hf : ∀ d u, f d u = true → ∃ v, RelV v u ∧ ∀ ρ H, Rep W ρ H d v) : ∀ {ds : List D} {us : List Value}, all2 f ds us = true → ∃ vs, Vals vs us ∧ ∀ ρ H, RepL W ρ H ds vs
  | [], [], _ => ⟨[], .nil, fun _ _ => rfl⟩
  | [], _ :: _, h => by cases h
  | _ :: _, [], h => by cases h
  | d :: ds, u :: us, h => by
    have h : (f d u && all2 f ds us) = true := h
    rw [Bool.and_eq_true] at h
    obtain ⟨v, r, q⟩ := hf d u h.1
    obtain ⟨vs, rs, qs⟩ := all2_rep hf h.2
    exact ⟨v :: vs, .cons r rs, fun ρ H => ⟨v, vs, rfl, q ρ H, qs ρ H⟩⟩
theorem valC_rep {W : Wd} : ∀ (n : Nat) (d : D) (u : Value), valC W.K n d u = true → ∃ v, RelV v u ∧ ∀ ρ H, Rep W ρ H d v
  | 0, _, _, h => by cases h
  | n + 1, d, u, h => by
    cases d with
    | non => cases u <;> first | exact ⟨.non, rfl, fun _ _ => rfl⟩ | cases h
    | bl a => cases u <;> first | (rename_i b; have e : a = b := (by simpa [valC] using h); subst e; exact ⟨.bl a, rfl, fun _ _ => rfl⟩) | cases h
    | int i => cases u <;> first | (rename_i j t; have e : i = j := (by simpa [valC] using h); subst e; exact ⟨.int i, ⟨t, rfl⟩, fun _ _ => rfl⟩) | cases h
    | str x => cases u <;> first | (rename_i y t; have e : x = y := (by simpa [valC] using h); subst e; exact ⟨.str x, ⟨t, rfl⟩, fun _ _ => rfl⟩) | cases h
    | tup ds =>
      cases u with
      | ref a =>
        have h : (match W.K.lookup a with
          | some ⟨.type cl, _, .seq its _, _⟩ => decide (cl = "tuple") && decide (its.size ≤ sizeLine) && all2 (valC W.K n) ds its.toList
          | _ => false) = true := h
        split at h
        · rename_i cl od its m sl e
          simp only [Bool.and_eq_true, decide_eq_true_eq] at h
          obtain ⟨⟨rfl, h2⟩, h3⟩ := h
          obtain ⟨vs, r, q⟩ := all2_rep (W := W) (fun d u => valC_rep n d u) h3
          exact ⟨.ref a, rfl, fun ρ H => ⟨a, vs, rfl, .inr ⟨_, its, m, e, rfl, rfl, h2, r⟩, q ρ H⟩⟩
        · cases h
      | _ => cases h
    | _ => cases u <;> cases h
def conC (con : List (Str × D)) (K : PySem.W.Frag) : Bool := con.all fun p => match PySem.W.nsIn K mainGlobals p.1 with
  | some (some u) => valC K 30 p.2 u
  | _ => false
/-! ### defs -/
def scopeC (N ps : List Str) (sc : Scope) : Bool := (match sc.kind with | .function => true | _ => false) && !sc.isCoroutine && !sc.isGenerator && decide N.Nodup && decide (N.take ps.length = ps) &&
  (ps.all fun x => isSt sc x) && sc.names.all fun y => match y.2 with | .free => false | _ => true
theorem scopeC_ok {N ps : List Str} {sc : Scope} (h : scopeC N ps sc = true) : FnScope N ps sc := by
  unfold scopeC at h
  simp only [Bool.and_eq_true, Bool.not_eq_true', decide_eq_true_eq] at h
  obtain ⟨⟨⟨⟨⟨⟨h1, h2⟩, h3⟩, h4⟩, h5⟩, h6⟩, h7⟩ := h
  refine ⟨?_, h2, h3, h4, h5, fun x hx => st_loc (List.all_eq_true.mp h6 x hx), fun y hy e => ?_⟩
  · split at h1
    · assumption
    · cases h1
  · have q := List.all_eq_true.mp h7 y hy
    rw [e] at q
    cases q
def plainC (p : Arguments) : Bool := p.posonlyargs.isEmpty && p.vararg.isNone && p.kwonlyargs.isEmpty && p.kwarg.isNone
/-- a def as the evaluator has it -/
def mkF (nsT : List (Str × List Str)) (d : He.DefD) : Str × FnI := (d.name, { params := d.params.args.map (·.arg), dfl := [], N := (nsT.lookup d.name).getD [], body := d.body, scope := d.scope })
def defC (nsT : List (Str × List Str)) (d : He.DefD) : Bool := decide (d.at_ = (d.name, none)) && plainC d.params && d.dfl.isEmpty && d.kwd.isEmpty && scopeC ((nsT.lookup d.name).getD []) (d.params.args.map (·.arg)) d.scope
def faOf (fn : List He.DefD) (free : List Str) : List He.Fa := fn.map (fun d => He.Fa.glo d.name) ++ free.map He.Fa.free
theorem look_mem {α : Type} {x : Str} {a : α} : ∀ {l : List (Str × α)}, l.lookup x = some a → (x, a) ∈ l
  | [], h => by cases h
  | (y, b) :: r, h => by
    by_cases e : x = y
    · subst e
      rw [look_eq] at h
      cases h
      exact List.mem_cons_self
    · rw [look_ne e] at h
      exact List.mem_cons_of_mem _ (look_mem h)
theorem known_of {P : Program} {w : World} {K : PySem.W.Frag} {h : Heap} {mg : Str → Option Value} (X : K.In h) (G : h.Ns mainGlobals mg) {fn : List He.DefD} {nsT : List (Str × List Str)} {con : List (Str × D)} {free : List Str} {hints : List Pos} {wf : Nat}
    (says : He.SaysD (faOf fn free) fn K) (hc : conC con K = true) (hd : fn.all (defC nsT) = true) : Known ⟨K, mg, P, w⟩ ⟨fn.map (mkF nsT), con, free, hints, wf⟩ where
  con := fun x d e => by
    have q := List.all_eq_true.mp hc _ (look_mem e)
    simp only at q
    split at q
    · rename_i u hu
      obtain ⟨v, r, k⟩ := valC_rep (W := ⟨K, mg, P, w⟩) 30 d u q
      exact ⟨u, v, PySem.W.mg_of X G hu, r, k⟩
    · cases q
  fns := fun x fi e => by
    obtain ⟨d, hm, e2⟩ := List.mem_map.mp (look_mem e)
    cases e2
    have q := List.all_eq_true.mp hd d hm
    unfold defC at q
    simp only [Bool.and_eq_true, decide_eq_true_eq] at q
    obtain ⟨⟨⟨⟨q1, q2⟩, q3⟩, q4⟩, q5⟩ := q
    obtain ⟨fd, F⟩ := says.defs hm
    have ed : d.dvs K = [] := by unfold He.DefD.dvs; rw [List.isEmpty_iff.mp q3]; rfl
    have ek : d.kws K = [] := by unfold He.DefD.kws; rw [List.isEmpty_iff.mp q4]; rfl
    rw [ed, ek] at F
    have glo := He.glo_ok X G (says.facts (f := .glo d.name) (List.mem_append_left _ (List.mem_map_of_mem hm)))
    have ea : He.fAd K d.at_ = He.ga K d.name := by rw [q1]; rfl
    rw [ea] at F
    refine ⟨He.ga K d.name, fd, [], glo, ⟨d.name, d.qual, d.params.args, d.params.kw_defaults, d.params.defaults, ?_, rfl⟩, fun _ _ => rfl, scopeC_ok q5, Nat.zero_le _⟩
    have ep : (⟨[], d.params.args, none, [], d.params.kw_defaults, none, d.params.defaults⟩ : Arguments) = d.params := by
      unfold plainC at q2
      simp only [Bool.and_eq_true, List.isEmpty_iff, Option.isNone_iff_eq_none] at q2
      obtain ⟨⟨⟨a1, a2⟩, a3⟩, a4⟩ := q2
      cases hp : d.params with
      | mk p1 p2 p3 p4 p5 p6 p7 =>
        rw [hp] at a1 a2 a3 a4
        simp only at a1 a2 a3 a4
        subst a1 a2 a3 a4
        rfl
    rw [ep]
    exact F
  free := fun x e => by
    have hm : x ∈ free := by simpa using e
    exact He.free_ok X G (says.facts (f := .free x) (List.mem_append_right _ (List.mem_map_of_mem hm)))
/-! ### the hook -/
def obsV (n : Nat) (fa : List He.Fa) (fn : List He.DefD) (con : List (Str × D)) (g : Addr → Option Obj) : He.AlD × Bool := (He.obsD fa fn (He.frG g (He.asD g n)), conC con (He.frG g (He.asD g n)))
def hookV (n : Nat) (fa : List He.Fa) (fn : List He.DefD) (con : List (Str × D)) : PySem.W.Hook where
  α := He.AlD × Bool
  obs := fun s => obsV n fa fn con s.heap.get?
  val := fun _ => (He.valD fn, true)
  says := fun _ h => ∃ K : PySem.W.Frag, K.In h ∧ He.SaysD fa fn K ∧ conC con K = true
  of := fun _ _ e => ⟨_, He.frG_in, congrArg (fun z : He.AlD × Bool => z.1) e, congrArg (fun z : He.AlD × Bool => z.2) e⟩
  keeps := fun _ _ _ ⟨K, hK, c⟩ k => ⟨K, PySem.W.Frag.In.keeps hK k, c⟩
theorem obsV_eq {n : Nat} {fa : List He.Fa} {fn : List He.DefD} {con : List (Str × D)} {g : Addr → Option Obj} {s : Shared} (h : ∀ a, g a = s.heap.get? a) : obsV n fa fn con g = (hookV n fa fn con).obs s := by
  have e : g = s.heap.get? := funext h
  rw [e]
  rfl
def defD? : Stmt → Option He.DefD
  | .FunctionDef n a b _ _ _ sc _ _ _ => some ⟨(n, none), n, n, a, b, sc, [], []⟩
  | _ => none
end Ev
set_option Elab.async false
set_option linter.all false
set_option maxRecDepth 100000
set_option maxHeartbeats 0
namespace K78
open PySem PySem.Spec PyProof.Rows L2 Ev
abbrev lw : PySem.W.OpenLaw := PySem.Challenge.rw_alikedeeds_k78_whole_rows_outside
abbrev R : PySem.W.OpenRow := PySem.W.OpenLaw.row PySem.Challenge.rw_alikedeeds_k78_whole_rows_outside
def body : List Stmt := PySem.Challenge.pw_alikedeeds_k78_whole_rows_outside.main.body
def nsT : List (Str × List Str) := [
  ("is_whole", ["value"]),
  ("is_word", ["value", "sign"]),
  ("is_tuple_of", ["value", "size"]),
  ("is_said", ["value", "word", "size"]),
  ("are_words", ["value", "one", "other", "word"]),
  ("speech_in", ["value", "word"]),
  ("check_speech", ["speech"]),
  ("is_atom_there", ["speech", "value", "bit"]),
  ("is_rising", ["items", "one", "other"]),
  ("is_lot_there", ["speech", "value", "atom"]),
  ("outside_from", ["lots", "others", "at", "left", "known", "atom", "late", "number"]),
  ("outside_there", ["lots", "others", "lot"]),
  ("is_lots_there", ["speech", "value", "least", "most", "lot"]),
  ("first_outside", ["speech", "lots", "others", "other"]),
  ("_law_purse", ["script", "at", "seed"]),
  ("_law_mixed", ["seed", "spin", "at", "mixed"]),
  ("_law_draw", ["purse", "many", "found", "piece", "drawn"]),
  ("_law_purses", ["script", "few", "at"]),
  ("_law_same", ["told", "due", "is_like", "key", "one", "other"]),
  ("_law_atoms", ["speech", "found", "test", "longer", "atom"]),
  ("_law_lot", ["purse", "atoms", "way", "atom"]),
  ("_law_gone_through", ["lots", "others", "at", "lead", "atom", "found", "other"]),
  ("_law_is_outside", ["atoms", "others", "other", "at", "atom"]),
  ("law", ["script", "purse", "tests", "speech", "atoms", "spin", "many", "turn", "told", "ends", "wide", "more", "gone", "due", "first", "lots", "others", "kept", "lot", "at", "place"])]
def con : List (Str × D) := [("CLOSED", .tup [.str "again", .str "and", .str "assume", .str "behind", .str "block", .str "deed", .str "do", .str "either", .str "else", .str "end", .str "holds", .str "if", .str "is", .str "keeps", .str "never", .str "no", .str "not", .str "or", .str "program", .str "repeat", .str "same", .str "skip", .str "stop", .str "test", .str "then", .str "under", .str "until", .str "while", .str "within", .str "yes"]), ("MOST_WORDS", .int (4)), ("MOST_LOTS", .int (13)), ("MOST_OTHERS", .int (400))]
def free : List Str := ["ValueError", "all", "any", "bool", "dict", "enumerate", "int", "isinstance", "len", "list", "max", "min", "range", "repr", "str", "sum", "tuple", "zip"]
def hints : List Pos := [⟨62, 19, 62, 47⟩, ⟨84, 11, 84, 90⟩, ⟨141, 76, 141, 78⟩]
def fn : List He.DefD := body.filterMap defD?
def cfg : Cfg := ⟨fn.map (mkF nsT), con, free, hints, 1000⟩
def fa : List He.Fa := faOf fn free
abbrev hk : PySem.W.Hook := hookV 4 fa fn con
def ob (s : PySem.W.SharedT) : He.AlD × Bool := obsV 4 fa fn con (HandSHeadRun.getT s)
theorem ob_eq (s : PySem.W.SharedT) : ob s = hk.obs s.abs := obsV_eq (HandSHeadRun.getT_eq s)
def loose : List Str := (R.prog.boundNames).filter fun n => n != ("law" : Str)
def last : Nat := body.length - 1
theorem defs_ok : fn.all (defC nsT) = true := by decide +kernel
theorem run (w : World) : HandSHeadRun.RunEq R (PySem.W.view R.prog [last]) hk ob 4000 loose w := by
  intro os
  kernel_rfl
end K78
set_option Elab.async false
set_option linter.all false
set_option maxRecDepth 100000
set_option maxHeartbeats 0
namespace K78
open PySem PySem.Spec PyProof.Rows L2 Ev
/-- is_whole(value): 0 value -/
def b_is_whole (call : Str → List D → Mem → Res D) : DenS := (sRet (eBool .And [(eBi .isinstance [(false, (eV 0)), (false, (eC (.ty "int")))]), (eNot (eBi .isinstance [(false, (eV 0)), (false, (eC (.ty "bool")))]))]))
theorem c_is_whole (k : Nat) (ds : List D) (M : Mem) : callD cfg (k + 1) "is_whole" ds M = (if ds.length = 1 then endD (b_is_whole (callD cfg k) (startD ["value"] ds) M) else .bad) := by kernel_rfl
/-- is_word(value): 0 value 1 sign -/
def b_is_word (call : Str → List D → Mem → Res D) : DenS := (sSeq (sIf (tBool .Or [(tNot (tD (eBi .isinstance [(false, (eV 0)), (false, (eC (.ty "str")))]))), (tNot (tCmp2 .Lt .Lt (eC (.int (0))) (eBi .len [(false, (eV 0))]) (eC (.int (9))))), (tCmp .In (eV 0) (eC (.tup [(.str "again"), (.str "and"), (.str "assume"), (.str "behind"), (.str "block"), (.str "deed"), (.str "do"), (.str "either"), (.str "else"), (.str "end"), (.str "holds"), (.str "if"), (.str "is"), (.str "keeps"), (.str "never"), (.str "no"), (.str "not"), (.str "or"), (.str "program"), (.str "repeat"), (.str "same"), (.str "skip"), (.str "stop"), (.str "test"), (.str "then"), (.str "under"), (.str "until"), (.str "while"), (.str "within"), (.str "yes")])))])
    (sRet (eC (.bl false)))
    sNx)
    (sRet (eBi .all [(false, (eLc false [1] (iSeq (eV 0)) (.nm 1) (testsD []) (eCmp2 .LtE .LtE (eC (.str "a")) (eV 1) (eC (.str "z")))))])))
theorem c_is_word (k : Nat) (ds : List D) (M : Mem) : callD cfg (k + 1) "is_word" ds M = (if ds.length = 1 then endD (b_is_word (callD cfg k) (startD ["value", "sign"] ds) M) else .bad) := by kernel_rfl
/-- is_tuple_of(value, size): 0 value 1 size -/
def b_is_tuple_of (call : Str → List D → Mem → Res D) : DenS := (sRet (eBool .And [(eBi .isinstance [(false, (eV 0)), (false, (eC (.ty "tuple")))]), (eCmp .Eq (eBi .len [(false, (eV 0))]) (eV 1))]))
theorem c_is_tuple_of (k : Nat) (ds : List D) (M : Mem) : callD cfg (k + 1) "is_tuple_of" ds M = (if ds.length = 2 then endD (b_is_tuple_of (callD cfg k) (startD ["value", "size"] ds) M) else .bad) := by kernel_rfl
/-- is_said(value, word, size): 0 value 1 word 2 size -/
def b_is_said (call : Str → List D → Mem → Res D) : DenS := (sRet (eBool .And [(eCall (call "is_tuple_of") (withDfl ["value", "size"] []) [(false, (eV 0)), (false, (eV 2))] [] []), (eBi .isinstance [(false, (eIx (eV 0) (eC (.int (0))))), (false, (eC (.ty "str")))]), (eCmp .Eq (eIx (eV 0) (eC (.int (0)))) (eV 1))]))
theorem c_is_said (k : Nat) (ds : List D) (M : Mem) : callD cfg (k + 1) "is_said" ds M = (if ds.length = 3 then endD (b_is_said (callD cfg k) (startD ["value", "word", "size"] ds) M) else .bad) := by kernel_rfl
/-- are_words(value): 0 value 1 one 2 other 3 word -/
def b_are_words (call : Str → List D → Mem → Res D) : DenS := (sSeq (sIf (tBool .Or [(tNot (tD (eBi .isinstance [(false, (eV 0)), (false, (eC (.ty "list")))]))), (tCmp .Gt (eBi .len [(false, (eV 0))]) (eC (.int (4)))), (tNot (tD (eBi .all [(false, (eLc false [3] (iSeq (eV 0)) (.nm 3) (testsD []) (eCall (call "is_word") (withDfl ["value"] []) [(false, (eV 3))] [] [])))])))])
    (sRet (eC (.bl false)))
    sNx)
    (sRet (eBi .all [(false, (eLc false [1, 2] (iZip (eV 0) (eSl (eV 0) (oSome (eC (.int (1)))) oNone)) (.tp [.nm 1, .nm 2]) (testsD []) (eCmp .Lt (eV 1) (eV 2))))])))
theorem c_are_words (k : Nat) (ds : List D) (M : Mem) : callD cfg (k + 1) "are_words" ds M = (if ds.length = 1 then endD (b_are_words (callD cfg k) (startD ["value", "one", "other", "word"] ds) M) else .bad) := by kernel_rfl
/-- speech_in(value): 0 value 1 word -/
def b_speech_in (call : Str → List D → Mem → Res D) : DenS := (sSeq (sIf (tBool .Or [(tNot (tD (eCall (call "is_said") (withDfl ["value", "word", "size"] []) [(false, (eV 0)), (false, (eC (.str "speech"))), (false, (eC (.int (3))))] [] []))), (tNot (tD (eCall (call "are_words") (withDfl ["value"] []) [(false, (eIx (eV 0) (eC (.int (1)))))] [] []))), (tNot (tD (eCall (call "are_words") (withDfl ["value"] []) [(false, (eIx (eV 0) (eC (.int (2)))))] [] [])))])
    (sRet (eC (.bl false)))
    sNx)
    (sRet (eNot (eBi .any [(false, (eLc false [1] (iSeq (eIx (eV 0) (eC (.int (1))))) (.nm 1) (testsD []) (eCmp .In (eV 1) (eIx (eV 0) (eC (.int (2)))))))]))))
theorem c_speech_in (k : Nat) (ds : List D) (M : Mem) : callD cfg (k + 1) "speech_in" ds M = (if ds.length = 1 then endD (b_speech_in (callD cfg k) (startD ["value", "word"] ds) M) else .bad) := by kernel_rfl
/-- check_speech(speech): 0 speech -/
def b_check_speech (call : Str → List D → Mem → Res D) : DenS := (sIf (tNot (tD (eCall (call "speech_in") (withDfl ["value"] []) [(false, (eV 0))] [] [])))
    sBad
    sNx)
theorem c_check_speech (k : Nat) (ds : List D) (M : Mem) : callD cfg (k + 1) "check_speech" ds M = (if ds.length = 1 then endD (b_check_speech (callD cfg k) (startD ["speech"] ds) M) else .bad) := by kernel_rfl
/-- is_atom_there(speech, value): 0 speech 1 value 2 bit -/
def b_is_atom_there (call : Str → List D → Mem → Res D) : DenS := (sSeq (sIf (tBool .Or [(tNot (tD (eBi .isinstance [(false, (eV 1)), (false, (eC (.ty "tuple")))]))), (tCmp .NotEq (eBi .len [(false, (eV 1))]) (eBi .len [(false, (eIx (eV 0) (eC (.int (1)))))]))])
    (sRet (eC (.bl false)))
    sNx)
    (sRet (eBi .all [(false, (eLc false [2] (iSeq (eV 1)) (.nm 2) (testsD []) (eBool .And [(eCall (call "is_whole") (withDfl ["value"] []) [(false, (eV 2))] [] []), (eCmp .In (eV 2) (eTup [(false, (eC (.int (0)))), (false, (eC (.int (1))))]))])))])))
theorem c_is_atom_there (k : Nat) (ds : List D) (M : Mem) : callD cfg (k + 1) "is_atom_there" ds M = (if ds.length = 2 then endD (b_is_atom_there (callD cfg k) (startD ["speech", "value", "bit"] ds) M) else .bad) := by kernel_rfl
/-- is_rising(items): 0 items 1 one 2 other -/
def b_is_rising (call : Str → List D → Mem → Res D) : DenS := (sRet (eBi .all [(false, (eLc false [1, 2] (iZip (eV 0) (eSl (eV 0) (oSome (eC (.int (1)))) oNone)) (.tp [.nm 1, .nm 2]) (testsD []) (eCmp .Lt (eV 1) (eV 2))))]))
theorem c_is_rising (k : Nat) (ds : List D) (M : Mem) : callD cfg (k + 1) "is_rising" ds M = (if ds.length = 1 then endD (b_is_rising (callD cfg k) (startD ["items", "one", "other"] ds) M) else .bad) := by kernel_rfl
/-- is_lot_there(speech, value): 0 speech 1 value 2 atom -/
def b_is_lot_there (call : Str → List D → Mem → Res D) : DenS := (sRet (eBool .And [(eBi .isinstance [(false, (eV 1)), (false, (eC (.ty "list")))]), (eBi .all [(false, (eLc false [2] (iSeq (eV 1)) (.nm 2) (testsD []) (eCall (call "is_atom_there") (withDfl ["speech", "value"] []) [(false, (eV 0)), (false, (eV 2))] [] [])))]), (eCall (call "is_rising") (withDfl ["items"] []) [(false, (eV 1))] [] [])]))
theorem c_is_lot_there (k : Nat) (ds : List D) (M : Mem) : callD cfg (k + 1) "is_lot_there" ds M = (if ds.length = 2 then endD (b_is_lot_there (callD cfg k) (startD ["speech", "value", "atom"] ds) M) else .bad) := by kernel_rfl
/-- outside_from(lots, others, at, left, known): 0 lots 1 others 2 at 3 left 4 known 5 atom 6 late 7 number -/
def b_outside_from (call : Str → List D → Mem → Res D) : DenS := (sSeq (sIf (tCmp .Eq (eV 2) (eBi .len [(false, (eV 0))]))
    (sRet (eIf (tCmp .Eq (eV 3) (eTup [])) (eLst false []) (eC .non)))
    sNx)
    (sSeq (sFor (iSeq (eIx (eV 0) (eV 2))) (.nm 5)
    (sSeq (sSet (.nm 6) (eBi .tuple [(false, (eLc false [7] (iSeq (eV 3)) (.nm 7) (testsD [(tCmp .In (eV 5) (eIx (eIx (eV 1) (eV 7)) (eV 2)))]) (eV 7)))]))
    (sSeq (sIf (tCmp .NotIn (eTup [(false, (eBin .Add (eV 2) (eC (.int (1))))), (false, (eV 6))]) (eV 4))
    (sSetIx (eV 4) (eTup [(false, (eBin .Add (eV 2) (eC (.int (1))))), (false, (eV 6))]) (eCall (call "outside_from") (withDfl ["lots", "others", "at", "left", "known"] []) [(false, (eV 0)), (false, (eV 1)), (false, (eBin .Add (eV 2) (eC (.int (1))))), (false, (eV 6)), (false, (eV 4))] [] []))
    sNx)
    (sIf (tCmp .IsNot (eIx (eV 4) (eTup [(false, (eBin .Add (eV 2) (eC (.int (1))))), (false, (eV 6))])) (eC .non))
    (sRet (eLst true [(false, (eV 5)), (true, (eIx (eV 4) (eTup [(false, (eBin .Add (eV 2) (eC (.int (1))))), (false, (eV 6))])))]))
    sNx))))
    (sRet (eC .non))))
theorem c_outside_from (k : Nat) (ds : List D) (M : Mem) : callD cfg (k + 1) "outside_from" ds M = (if ds.length = 5 then endD (b_outside_from (callD cfg k) (startD ["lots", "others", "at", "left", "known", "atom", "late", "number"] ds) M) else .bad) := by kernel_rfl
/-- outside_there(lots, others): 0 lots 1 others 2 lot -/
def b_outside_there (call : Str → List D → Mem → Res D) : DenS := (sSeq (sIf (tD (eBi .any [(false, (eLc false [2] (iSeq (eV 0)) (.nm 2) (testsD []) (eCmp .Eq (eV 2) (eLst false []))))]))
    (sRet (eC .non))
    sNx)
    (sRet (eCall (call "outside_from") (withDfl ["lots", "others", "at", "left", "known"] []) [(false, (eV 0)), (false, (eV 1)), (false, (eC (.int (0)))), (false, (eTupRg1 (eBi .len [(false, (eV 1))]))), (false, eDict0)] [] [])))
theorem c_outside_there (k : Nat) (ds : List D) (M : Mem) : callD cfg (k + 1) "outside_there" ds M = (if ds.length = 2 then endD (b_outside_there (callD cfg k) (startD ["lots", "others", "lot"] ds) M) else .bad) := by kernel_rfl
/-- is_lots_there(speech, value, least, most): 0 speech 1 value 2 least 3 most 4 lot -/
def b_is_lots_there (call : Str → List D → Mem → Res D) : DenS := (sSeq (sIf (tBool .Or [(tNot (tD (eBi .isinstance [(false, (eV 1)), (false, (eC (.ty "list")))]))), (tNot (tCmp2 .LtE .LtE (eV 2) (eBi .len [(false, (eV 1))]) (eV 3)))])
    (sRet (eC (.bl false)))
    sNx)
    (sRet (eBi .all [(false, (eLc false [4] (iSeq (eV 1)) (.nm 4) (testsD []) (eCall (call "is_lot_there") (withDfl ["speech", "value"] []) [(false, (eV 0)), (false, (eV 4))] [] [])))])))
theorem c_is_lots_there (k : Nat) (ds : List D) (M : Mem) : callD cfg (k + 1) "is_lots_there" ds M = (if ds.length = 4 then endD (b_is_lots_there (callD cfg k) (startD ["speech", "value", "least", "most", "lot"] ds) M) else .bad) := by kernel_rfl
/-- first_outside(speech, lots, others): 0 speech 1 lots 2 others 3 other -/
def b_first_outside (call : Str → List D → Mem → Res D) : DenS := (sSeq (sDrop (eCall (call "check_speech") (withDfl ["speech"] []) [(false, (eV 0))] [] []))
    (sSeq (sIf (tNot (tD (eCall (call "is_lots_there") (withDfl ["speech", "value", "least", "most"] []) [(false, (eV 0)), (false, (eV 1)), (false, (eC (.int (1)))), (false, (eC (.int (13))))] [] [])))
    sBad
    sNx)
    (sSeq (sIf (tBool .Or [(tNot (tD (eBi .isinstance [(false, (eV 2)), (false, (eC (.ty "list")))]))), (tCmp .Gt (eBi .len [(false, (eV 2))]) (eC (.int (400))))])
    sBad
    sNx)
    (sSeq (sIf (tNot (tD (eBi .all [(false, (eLc false [3] (iSeq (eV 2)) (.nm 3) (testsD []) (eCall (call "is_lots_there") (withDfl ["speech", "value", "least", "most"] []) [(false, (eV 0)), (false, (eV 3)), (false, (eBi .len [(false, (eV 1))])), (false, (eBi .len [(false, (eV 1))]))] [] [])))])))
    sBad
    sNx)
    (sRet (eCall (call "outside_there") (withDfl ["lots", "others"] []) [(false, (eV 1)), (false, (eV 2))] [] []))))))
theorem c_first_outside (k : Nat) (ds : List D) (M : Mem) : callD cfg (k + 1) "first_outside" ds M = (if ds.length = 3 then endD (b_first_outside (callD cfg k) (startD ["speech", "lots", "others", "other"] ds) M) else .bad) := by kernel_rfl
/-- _law_purse(script, at): 0 script 1 at 2 seed -/
def b_x_law_purse (call : Str → List D → Mem → Res D) : DenS := (sSeq (sSet (.nm 2) (eBi .sum [(false, (eSl (eV 0) (oSome (eV 1)) (oSome (eBin .Add (eV 1) (eC (.int (1)))))))]))
    (sRet (eLst true [(false, (eBin .Mod (eBi .int [(false, (eBi .max [(false, (eBin .Sub (eV 2) (eBin .Pow (eC (.int (10))) (eC (.int (18)))))), (false, (eC (.int (0))))]))]) (eBin .Pow (eBin .Pow (eC (.int (10))) (eC (.int (60)))) (eC (.int (8)))))), (false, (eBin .Mod (eBi .int [(false, (eV 2))]) (eC (.int (2147483629))))), (false, (eC (.int (0)))), (false, (eV 1))])))
theorem c_x_law_purse (k : Nat) (ds : List D) (M : Mem) : callD cfg (k + 1) "_law_purse" ds M = (if ds.length = 2 then endD (b_x_law_purse (callD cfg k) (startD ["script", "at", "seed"] ds) M) else .bad) := by kernel_rfl
/-- _law_mixed(seed, spin, at): 0 seed 1 spin 2 at 3 mixed -/
def b_x_law_mixed (call : Str → List D → Mem → Res D) : DenS := (sSeq (sSet (.nm 3) (eBin .Add (eBin .Mult (eV 0) (eC (.int (69069)))) (eBin .Mult (eBin .Mult (eC (.int (104729))) (eV 1)) (eV 1))))
    (sSeq (sSet (.nm 3) (eBin .Mod (eBi .int [(false, (eBin .Add (eBin .Add (eV 3) (eBin .Mult (eC (.int (7919))) (eV 2))) (eV 1)))]) (eC (.int (2147483647)))))
    (sSeq (sSet (.nm 3) (eBin .Mod (eBi .int [(false, (eBin .Add (eBin .Mult (eV 3) (eV 3)) (eC (.int (40503)))))]) (eC (.int (2147483629)))))
    (sRet (eBin .Mod (eBi .int [(false, (eBin .Mult (eV 3) (eC (.int (48271)))))]) (eC (.int (2147483587))))))))
theorem c_x_law_mixed (k : Nat) (ds : List D) (M : Mem) : callD cfg (k + 1) "_law_mixed" ds M = (if ds.length = 3 then endD (b_x_law_mixed (callD cfg k) (startD ["seed", "spin", "at", "mixed"] ds) M) else .bad) := by kernel_rfl
/-- _law_draw(purse, many): 0 purse 1 many 2 found 3 piece 4 drawn -/
def b_x_law_draw (call : Str → List D → Mem → Res D) : DenS := (sSeq (sIf (tCmp .Gt (eIx (eV 0) (eC (.int (0)))) (eC (.int (0))))
    (sSeq (sSet (.nm 4) (eBin .Mod (eBi .int [(false, (eIx (eV 0) (eC (.int (0)))))]) (eV 1)))
    (sSeq (sSetIx (eV 0) (eC (.int (0))) (eBin .FloorDiv (eIx (eV 0) (eC (.int (0)))) (eV 1)))
    (sRet (eV 4))))
    sNx)
    (sSeq (sSet (.nm 2) (eC (.int (0))))
    (sSeq (sFor (iRange1 (eBin .Add (eC (.int (1))) (eBin .FloorDiv (eBits (eV 1)) (eC (.int (28)))))) (.nm 3)
    (sSeq (sSetIx (eV 0) (eC (.int (2))) (eBin .Add (eIx (eV 0) (eC (.int (2)))) (eC (.int (1)))))
    (sSet (.nm 2) (eBin .Add (eBin .Mult (eV 2) (eC (.int (2147483587)))) (eCall (call "_law_mixed") (withDfl ["seed", "spin", "at"] []) [(false, (eIx (eV 0) (eC (.int (1))))), (false, (eIx (eV 0) (eC (.int (2))))), (false, (eIx (eV 0) (eC (.int (3)))))] [] [])))))
    (sRet (eBin .Mod (eBi .int [(false, (eV 2))]) (eV 1))))))
theorem c_x_law_draw (k : Nat) (ds : List D) (M : Mem) : callD cfg (k + 1) "_law_draw" ds M = (if ds.length = 2 then endD (b_x_law_draw (callD cfg k) (startD ["purse", "many", "found", "piece", "drawn"] ds) M) else .bad) := by kernel_rfl
/-- _law_purses(script, few): 0 script 1 few 2 at -/
def b_x_law_purses (call : Str → List D → Mem → Res D) : DenS := (sRet (eLc false [2] (iRange1 (eBi .max [(false, (eC (.int (1)))), (false, (eBi .min [(false, (eV 1)), (false, (eBi .len [(false, (eV 0))]))]))])) (.nm 2) (testsD []) (eCall (call "_law_purse") (withDfl ["script", "at"] []) [(false, (eV 0)), (false, (eV 2))] [] [])))
theorem c_x_law_purses (k : Nat) (ds : List D) (M : Mem) : callD cfg (k + 1) "_law_purses" ds M = (if ds.length = 2 then endD (b_x_law_purses (callD cfg k) (startD ["script", "few", "at"] ds) M) else .bad) := by kernel_rfl
/-- _law_same(told, due): 0 told 1 due 2 is_like 3 key 4 one 5 other -/
def b_x_law_same (call : Str → List D → Mem → Res D) : DenS := (sSeq (sIf (tD (eBi .isinstance [(false, (eV 1)), (false, (eC (.ty "dict")))]))
    (sSeq (sSet (.nm 2) (eBool .And [(eBi .isinstance [(false, (eV 0)), (false, (eC (.ty "dict")))]), (eCmp .Eq (eBi .len [(false, (eV 0))]) (eBi .len [(false, (eV 1))])), (eBi .all [(false, (eLc false [3] (iSeq (eV 1)) (.nm 3) (testsD []) (eCmp .In (eV 3) (eV 0))))])]))
    (sRet (eBool .And [(eV 2), (eBi .all [(false, (eLc false [3] (iSeq (eV 1)) (.nm 3) (testsD []) (eCall (call "_law_same") (withDfl ["told", "due"] []) [(false, (eIx (eV 0) (eV 3))), (false, (eIx (eV 1) (eV 3)))] [] [])))])])))
    sNx)
    (sSeq (sIf (tD (eBi .isinstance [(false, (eV 1)), (false, (eTup [(false, (eC (.ty "list"))), (false, (eC (.ty "tuple")))]))]))
    (sSeq (sSet (.nm 2) (eBool .And [(eCmp .Eq (eBi .isinstance [(false, (eV 0)), (false, (eC (.ty "list")))]) (eBi .isinstance [(false, (eV 1)), (false, (eC (.ty "list")))])), (eCmp .Eq (eBi .isinstance [(false, (eV 0)), (false, (eC (.ty "tuple")))]) (eBi .isinstance [(false, (eV 1)), (false, (eC (.ty "tuple")))]))]))
    (sRet (eBool .And [(eV 2), (eCmp .Eq (eBi .len [(false, (eV 0))]) (eBi .len [(false, (eV 1))])), (eBi .all [(false, (eLc false [4, 5] (iZip (eV 0) (eV 1)) (.tp [.nm 4, .nm 5]) (testsD []) (eCall (call "_law_same") (withDfl ["told", "due"] []) [(false, (eV 4)), (false, (eV 5))] [] [])))])])))
    sNx)
    (sSeq (sSet (.nm 2) (eBool .And [(eNot (eBi .isinstance [(false, (eV 0)), (false, (eTup [(false, (eC (.ty "list"))), (false, (eC (.ty "tuple"))), (false, (eC (.ty "dict")))]))])), (eCmp .Eq (eBi .isinstance [(false, (eV 0)), (false, (eC (.ty "int")))]) (eBi .isinstance [(false, (eV 1)), (false, (eC (.ty "int")))])), (eCmp .Eq (eBi .isinstance [(false, (eV 0)), (false, (eC (.ty "str")))]) (eBi .isinstance [(false, (eV 1)), (false, (eC (.ty "str")))]))]))
    (sRet (eBool .And [(eV 2), (eCmp .Eq (eCmp .Is (eV 0) (eC .non)) (eCmp .Is (eV 1) (eC .non))), (eCmp .Eq (eBi .isinstance [(false, (eV 0)), (false, (eC (.ty "bool")))]) (eBi .isinstance [(false, (eV 1)), (false, (eC (.ty "bool")))])), (eCmp .Eq (eV 0) (eV 1))])))))
theorem c_x_law_same (k : Nat) (ds : List D) (M : Mem) : callD cfg (k + 1) "_law_same" ds M = (if ds.length = 2 then endD (b_x_law_same (callD cfg k) (startD ["told", "due", "is_like", "key", "one", "other"] ds) M) else .bad) := by kernel_rfl
/-- _law_atoms(speech): 0 speech 1 found 2 test 3 longer 4 atom -/
def b_x_law_atoms (call : Str → List D → Mem → Res D) : DenS := (sSeq (sSet (.nm 1) (eLst false [(false, (eTup []))]))
    (sSeq (sFor (iSeq (eIx (eV 0) (eC (.int (1))))) (.nm 2)
    (sSeq (sSet (.nm 3) (eLst false []))
    (sSeq (sFor (iSeq (eV 1)) (.nm 4)
    (sSet (.nm 3) (eBin .Add (eV 3) (eLst false [(false, (eBin .Add (eV 4) (eTup [(false, (eC (.int (0))))]))), (false, (eBin .Add (eV 4) (eTup [(false, (eC (.int (1))))])))]))))
    (sSet (.nm 1) (eV 3)))))
    (sRet (eV 1))))
theorem c_x_law_atoms (k : Nat) (ds : List D) (M : Mem) : callD cfg (k + 1) "_law_atoms" ds M = (if ds.length = 1 then endD (b_x_law_atoms (callD cfg k) (startD ["speech", "found", "test", "longer", "atom"] ds) M) else .bad) := by kernel_rfl
/-- _law_lot(purse, atoms): 0 purse 1 atoms 2 way 3 atom -/
def b_x_law_lot (call : Str → List D → Mem → Res D) : DenS := (sSeq (sSet (.nm 2) (eCall (call "_law_draw") (withDfl ["purse", "many"] []) [(false, (eV 0)), (false, (eC (.int (6))))] [] []))
    (sSeq (sIf (tCmp .Lt (eV 2) (eC (.int (2))))
    (sRet (eList false [(false, (eV 1))]))
    sNx)
    (sRet (eLc false [3] (iSeq (eV 1)) (.nm 3) (testsD [(tCmp .Gt (eCall (call "_law_draw") (withDfl ["purse", "many"] []) [(false, (eV 0)), (false, (eIf (tCmp .Lt (eV 2) (eC (.int (5)))) (eC (.int (2))) (eC (.int (4)))))] [] []) (eC (.int (0))))]) (eV 3)))))
theorem c_x_law_lot (k : Nat) (ds : List D) (M : Mem) : callD cfg (k + 1) "_law_lot" ds M = (if ds.length = 2 then endD (b_x_law_lot (callD cfg k) (startD ["purse", "atoms", "way", "atom"] ds) M) else .bad) := by kernel_rfl
/-- _law_gone_through(lots, others, at, lead): 0 lots 1 others 2 at 3 lead 4 atom 5 found 6 other -/
def b_x_law_gone_through (call : Str → List D → Mem → Res D) : DenS := (sSeq (sIf (tCmp .Eq (eV 2) (eBi .len [(false, (eV 0))]))
    (sRet (eIf (tCmp .NotEq (eV 1) (eLst false [])) (eC .non) (eV 3)))
    sNx)
    (sSeq (sFor (iSeq (eIx (eV 0) (eV 2))) (.nm 4)
    (sSeq (sSet (.nm 5) (eCall (call "_law_gone_through") (withDfl ["lots", "others", "at", "lead"] []) [(false, (eV 0)), (false, (eLc false [6] (iSeq (eV 1)) (.nm 6) (testsD [(tCmp .In (eV 4) (eIx (eV 6) (eV 2)))]) (eV 6))), (false, (eBin .Add (eV 2) (eC (.int (1))))), (false, (eBin .Add (eV 3) (eLst false [(false, (eV 4))])))] [] []))
    (sIf (tCmp .IsNot (eV 5) (eC .non))
    (sRet (eV 5))
    sNx)))
    (sRet (eC .non))))
theorem c_x_law_gone_through (k : Nat) (ds : List D) (M : Mem) : callD cfg (k + 1) "_law_gone_through" ds M = (if ds.length = 4 then endD (b_x_law_gone_through (callD cfg k) (startD ["lots", "others", "at", "lead", "atom", "found", "other"] ds) M) else .bad) := by kernel_rfl
/-- _law_is_outside(atoms, others): 0 atoms 1 others 2 other 3 at 4 atom -/
def b_x_law_is_outside (call : Str → List D → Mem → Res D) : DenS := (sRet (eCmp .Eq (eLc false [2] (iSeq (eV 1)) (.nm 2) (testsD [(tCmp .Eq (eLc false [3, 4] (iEnum (eV 0)) (.tp [.nm 3, .nm 4]) (testsD [(tCmp .NotIn (eV 4) (eIx (eV 2) (eV 3)))]) (eV 3)) (eLst false []))]) (eV 2)) (eLst false [])))
theorem c_x_law_is_outside (k : Nat) (ds : List D) (M : Mem) : callD cfg (k + 1) "_law_is_outside" ds M = (if ds.length = 2 then endD (b_x_law_is_outside (callD cfg k) (startD ["atoms", "others", "other", "at", "atom"] ds) M) else .bad) := by kernel_rfl
/-- law(script): 0 script 1 purse 2 tests 3 speech 4 atoms 5 spin 6 many 7 turn 8 told 9 ends 10 wide 11 more 12 gone 13 due 14 first 15 lots 16 others 17 kept 18 lot 19 at 20 place -/
def b_law (call : Str → List D → Mem → Res D) : DenS := (sSeq (sFor (iSeq (eCall (call "_law_purses") (withDfl ["script", "few"] []) [(false, (eV 0)), (false, (eC (.int (3))))] [] [])) (.nm 1)
    (sSeq (sSet (.nm 2) (eCall (call "_law_draw") (withDfl ["purse", "many"] []) [(false, (eV 1)), (false, (eC (.int (5))))] [] []))
    (sSeq (sSet (.nm 3) (eTup [(false, (eC (.str "speech"))), (false, (eSl (eLst false [(false, (eC (.str "a"))), (false, (eC (.str "b"))), (false, (eC (.str "c"))), (false, (eC (.str "d")))]) oNone (oSome (eV 2)))), (false, (eSl (eLst false [(false, (eC (.str "p")))]) oNone (oSome (eCall (call "_law_draw") (withDfl ["purse", "many"] []) [(false, (eV 1)), (false, (eC (.int (2))))] [] []))))]))
    (sSeq (sSet (.nm 4) (eCall (call "_law_atoms") (withDfl ["speech"] []) [(false, (eV 3))] [] []))
    (sFor (iRange1 (eC (.int (4)))) (.nm 5)
    (sSeq (sSet (.nm 6) (eBin .Add (eC (.int (1))) (eCall (call "_law_draw") (withDfl ["purse", "many"] []) [(false, (eV 1)), (false, (eIf (tCmp .Lt (eV 2) (eC (.int (3)))) (eC (.int (4))) (eC (.int (3)))))] [] [])))
    (sSeq (sSet (.tp [.nm 15, .nm 16]) (eTup [(false, (eLc false [19] (iRange1 (eV 6)) (.nm 19) (testsD []) (eCall (call "_law_lot") (withDfl ["purse", "atoms"] []) [(false, (eV 1)), (false, (eV 4))] [] []))), (false, (eLst true []))]))
    (sSeq (sFor (iRange1 (eCall (call "_law_draw") (withDfl ["purse", "many"] []) [(false, (eV 1)), (false, (eC (.int (8))))] [] [])) (.nm 7)
    (sDrop (eAppend (eV 16) (eLc false [18] (iSeq (eV 15)) (.nm 18) (testsD []) (eIf (tCmp .Gt (eCall (call "_law_draw") (withDfl ["purse", "many"] []) [(false, (eV 1)), (false, (eC (.int (3))))] [] []) (eC (.int (0)))) (eCall (call "_law_lot") (withDfl ["purse", "atoms"] []) [(false, (eV 1)), (false, (eV 4))] [] []) (eList false [(false, (eV 18))]))))))
    (sSeq (sIf (tBool .And [(tCmp .Lt (eV 2) (eC (.int (3)))), (tCmp .Eq (eCall (call "_law_draw") (withDfl ["purse", "many"] []) [(false, (eV 1)), (false, (eC (.int (2))))] [] []) (eC (.int (0))))])
    (sSet (.nm 16) (eBin .Add (eV 16) (eLc false [19] (iRange3 (eC (.int (0))) (eBi .len [(false, (eV 4))]) (eC (.int (2)))) (.nm 19) (testsD []) (eLc false [20, 18] (iEnum (eV 15)) (.tp [.nm 20, .nm 18]) (testsD []) (eIf (tCmp .Eq (eV 20) (eC (.int (0)))) (eList false [(false, (eSl (eV 4) (oSome (eV 19)) oNone))]) (eList false [(false, (eV 18))]))))))
    sNx)
    (sSeq (sPar 17 13 (eBi .repr [(false, (eLst false [(false, (eV 3)), (false, (eV 15)), (false, (eV 16))]))]) (eCall (call "_law_gone_through") (withDfl ["lots", "others", "at", "lead"] []) [(false, (eV 15)), (false, (eV 16)), (false, (eC (.int (0)))), (false, (eLst false []))] [] []))
    (sSeq (sSet (.nm 8) (eLst false [(false, (eCall (call "first_outside") (withDfl ["speech", "lots", "others"] []) [(false, (eV 3)), (false, (eV 15)), (false, (eV 16))] [] [])), (false, (eCall (call "first_outside") (withDfl ["speech", "lots", "others"] []) [] ["others", "lots", "speech"] [(false, (eV 16)), (false, (eV 15)), (false, (eV 3))]))]))
    (sSeq (sIf (tBool .Or [(tNot (tD (eCall (call "_law_same") (withDfl ["told", "due"] []) [(false, (eV 8)), (false, (eLst false [(false, (eV 13)), (false, (eV 13))]))] [] []))), (tCmp .NotEq (eBi .repr [(false, (eLst false [(false, (eV 3)), (false, (eV 15)), (false, (eV 16))]))]) (eV 17))])
    (sRet (eC (.bl false)))
    sNx)
    (sSeq (sIf (tBool .And [(tCmp .IsNot (eIx (eV 8) (eC (.int (0)))) (eC .non)), (tNot (tD (eCall (call "_law_is_outside") (withDfl ["atoms", "others"] []) [(false, (eIx (eV 8) (eC (.int (0))))), (false, (eV 16))] [] [])))])
    (sRet (eC (.bl false)))
    sNx)
    (sSeq (sIf (tCmp .IsNot (eIx (eV 8) (eC (.int (0)))) (eC .non))
    (sSeq (sDrop (eAppend (eIx (eV 8) (eC (.int (0)))) (eC (.str "spoilt"))))
    (sIf (tNot (tD (eCall (call "_law_same") (withDfl ["told", "due"] []) [(false, (eCall (call "first_outside") (withDfl ["speech", "lots", "others"] []) [(false, (eV 3)), (false, (eV 15)), (false, (eV 16))] [] [])), (false, (eV 13))] [] [])))
    (sRet (eC (.bl false)))
    sNx))
    sNx)
    (sSeq (sSet (.nm 9) (eList false [(false, (eV 4))]))
    (sSeq (sSet (.nm 10) (eBin .Add (eLst false [(false, (eV 9)), (false, (eIx (eV 15) (eC (.int (0))))), (false, (eV 9)), (false, (eV 9)), (false, (eIx (eV 15) (eBin .Sub (eBi .len [(false, (eV 15))]) (eC (.int (1))))))]) (eBin .Mult (eLst false [(false, (eV 9))]) (eCall (call "_law_draw") (withDfl ["purse", "many"] []) [(false, (eV 1)), (false, (eC (.int (7))))] [] []))))
    (sSeq (sSet (.nm 11) (eLc false [18] (iSeq (eV 16)) (.nm 18) (testsD []) (eBin .Add (eLst false [(false, (eV 9)), (false, (eIx (eV 18) (eC (.int (0))))), (false, (eV 9)), (false, (eV 9)), (false, (eIx (eV 18) (eBin .Sub (eBi .len [(false, (eV 18))]) (eC (.int (1))))))]) (eBin .Mult (eLst false [(false, (eV 9))]) (eBin .Sub (eBi .len [(false, (eV 10))]) (eC (.int (5))))))))
    (sSeq (sSet (.nm 12) (eCall (call "_law_gone_through") (withDfl ["lots", "others", "at", "lead"] []) [(false, (eLst false [(false, (eIx (eV 10) (eC (.int (1))))), (false, (eIx (eV 10) (eC (.int (4)))))])), (false, (eLc false [18] (iSeq (eV 11)) (.nm 18) (testsD []) (eLst false [(false, (eIx (eV 18) (eC (.int (1))))), (false, (eIx (eV 18) (eC (.int (4)))))]))), (false, (eC (.int (0)))), (false, (eLst false []))] [] []))
    (sSeq (sSet (.nm 13) (eIf (tCmp .Is (eV 12) (eC .non)) (eC .non) (eBin .Add (eLst false [(false, (eIx (eV 4) (eC (.int (0))))), (false, (eIx (eV 12) (eC (.int (0))))), (false, (eIx (eV 4) (eC (.int (0))))), (false, (eIx (eV 4) (eC (.int (0))))), (false, (eIx (eV 12) (eC (.int (1)))))]) (eBin .Mult (eLst false [(false, (eIx (eV 4) (eC (.int (0)))))]) (eBin .Sub (eBi .len [(false, (eV 10))]) (eC (.int (5))))))))
    (sSeq (sIf (tNot (tD (eCall (call "_law_same") (withDfl ["told", "due"] []) [(false, (eCall (call "first_outside") (withDfl ["speech", "lots", "others"] []) [(false, (eV 3)), (false, (eV 10)), (false, (eV 11))] [] [])), (false, (eV 13))] [] [])))
    (sRet (eC (.bl false)))
    sNx)
    (sSeq (sSet (.nm 14) (eIf (tCmp .In (eLst false []) (eV 15)) (eC .non) (eLc false [18] (iSeq (eV 15)) (.nm 18) (testsD []) (eIx (eV 18) (eC (.int (0)))))))
    (sIf (tBool .Or [(tNot (tD (eCall (call "_law_same") (withDfl ["told", "due"] []) [(false, (eCall (call "first_outside") (withDfl ["speech", "lots", "others"] []) [(false, (eV 3)), (false, (eV 15)), (false, (eLst false []))] [] [])), (false, (eV 14))] [] []))), (tCmp .IsNot (eCall (call "first_outside") (withDfl ["speech", "lots", "others"] []) [(false, (eV 3)), (false, (eV 15)), (false, (eLst false [(false, (eV 15))]))] [] []) (eC .non))])
    (sRet (eC (.bl false)))
    sNx))))))))))))))))))))))
    (sRet (eC (.bl true))))
theorem c_law (k : Nat) (ds : List D) (M : Mem) : callD cfg (k + 1) "law" ds M = (if ds.length = 1 then endD (b_law (callD cfg k) (startD ["script", "purse", "tests", "speech", "atoms", "spin", "many", "turn", "told", "ends", "wide", "more", "gone", "due", "first", "lots", "others", "kept", "lot", "at", "place"] ds) M) else .bad) := by kernel_rfl
end K78
set_option Elab.async false
set_option linter.all false
set_option maxRecDepth 100000
set_option maxHeartbeats 2000000
/-! M78: what the defs of law k78 compute. -/
namespace Ev
open PySem
/-! ### how the evaluator's words reduce -/
section
variable {α β : Type} {a : α} {M M' : Mem} {i j : Int}
theorem rb_ok {f : α → Mem → Res β} : (Res.ok a M).bind f = f a M := rfl
theorem rb_bad {f : α → Mem → Res β} : (Res.bad : Res α).bind f = .bad := rfl
theorem add_int : addD (.int i) (.int j) M = .ok (.int (i + j)) M := rfl
theorem sub_int : subD (.int i) (.int j) M = .ok (.int (i - j)) M := rfl
theorem mul_int (h : mulOk i j = true) : mulD (.int i) (.int j) M = .ok (.int (i * j)) M := by
  show guardR (mulOk i j) (.int (i * j)) M = _
  rw [h]; rfl
theorem mod_int (h : j ≠ 0) : modD (.int i) (.int j) M = .ok (.int (i.fmod j)) M := by
  show guardR (decide (j ≠ 0)) (.int (i.fmod j)) M = _
  rw [decide_eq_true h]; rfl
theorem div_int (h : j ≠ 0) (h2 : j.natAbs < 1073741824) : divD (.int i) (.int j) M = .ok (.int (i.fdiv j)) M := by
  show guardR (decide (j ≠ 0) && decide (j.natAbs < 1073741824)) (.int (i.fdiv j)) M = _
  rw [decide_eq_true h, decide_eq_true h2]; rfl
theorem g_true' {d : D} {b : Bool} (h : b = true) : guardR b d M = .ok d M := by rw [h]; rfl
theorem bi_int : biD .int [.int i] M = .ok (.int i) M := rfl
theorem bin_add : binD .Add = addD := rfl
theorem bin_sub : binD .Sub = subD := rfl
theorem bin_mul : binD .Mult = mulD := rfl
theorem bin_mod : binD .Mod = modD := rfl
theorem bin_div : binD .FloorDiv = divD := rfl
theorem eL_nil {δ : Slots} : eL [] δ M = .ok [] M := rfl
theorem eL_one {δ : Slots} {d : Den} {r : List (Bool × Den)} : eL ((false, d) :: r) δ M = (d δ M).bind fun x M => (eL r δ M).bind fun xs M => .ok (x :: xs) M := rfl
theorem gt_int : cmpD .Gt (.int i) (.int j) M = some (decide (j < i)) := rfl
theorem lt_int : cmpD .Lt (.int i) (.int j) M = some (decide (i < j)) := rfl
theorem optB_some {b : Bool} : optB (some b) M = .ok b M := rfl
theorem optR_some {b : Bool} : optR (some b) M = .ok (.bl b) M := rfl
theorem set_nm {k : Nat} {d : D} {δ : Slots} : setT (.nm k) d δ = some (δ.set k (some d)) := rfl
theorem mul_ok (h : -(2 ^ 64) < j ∧ j < 2 ^ 64) : mulOk i j = true := by
  unfold mulOk
  simp only [Bool.or_eq_true, Bool.and_eq_true, decide_eq_true_eq]
  exact .inr h
theorem mul_ok' (h : -(2 ^ 64) < i ∧ i < 2 ^ 64) : mulOk i j = true := by
  unfold mulOk
  simp only [Bool.or_eq_true, Bool.and_eq_true, decide_eq_true_eq]
  exact .inl h
theorem fmod_lt {a : Int} (b : Int) (h : 0 < b) : 0 ≤ a.fmod b ∧ a.fmod b < b := ⟨Int.fmod_nonneg_of_pos _ h, Int.fmod_lt_of_pos _ h⟩
theorem ix_ref {n : Nat} {xs : List D} {d : D} (h : M[n]? = some (.lst xs)) (e : L2.atI xs i = some d) : ixD (.ref n) (.int i) M = .ok d M := by
  show ixObj M[n]? (.int i) M = _
  rw [h]
  show (match L2.atI xs i with | some v => Res.ok v M | none => .bad) = _
  rw [e]
theorem set_ref {n k : Nat} {xs : List D} {d : D} (h : M[n]? = some (.lst xs)) (e : L2.ixN xs.length i = some k) : setIx (.ref n) (.int i) d M = some (M.set n (.lst (xs.set k d))) := by
  show (setObj M[n]? (.int i) d).map (fun ob => M.set n ob) = _
  rw [h]
  show (match L2.ixN xs.length i with | some j => some (Ob.lst (xs.set j d)) | none => none).map (fun ob => M.set n ob) = _
  rw [e]
  rfl
theorem for_nil {tg : Tgt} {b : DenS} {δ : Slots} : forGo tg b [] [] δ M = .ok (.nx δ) M := rfl
theorem for_cons {tg : Tgt} {b : DenS} {x : D} {r : List D} {δ δ' : Slots} (h : setT tg x δ = some δ') : forGo tg b [] (x :: r) δ M = (b δ' M).bind fun f M => (match f with
        | .nx δ => forGo tg b [] r δ M
        | .ct δ => forGo tg b [] r δ M
        | .bk δ => .ok (.nx δ) M
        | .rt d => .ok (.rt d) M) := by
  show (if gdOk [] M then (match setT tg x δ with | some δ => _ | none => _) else _) = _
  rw [h]
  rfl
theorem call_pos {call : List D → Mem → Res D} {l : List (Str × Option D)} {as : List (Bool × Den)} {δ : Slots} {xs ys : List D} (h : eL as δ M = .ok xs M') (hl : arrGo l xs [] = some ys) : eCall call l as [] [] δ M = noErr (call ys M') := by
  show (if !([] : List Str).all (l.map (·.1)).contains then Res.bad else (eL as δ M).bind fun vs M => (eL [] δ M).bind fun ws M => match arrGo l vs (([] : List Str).zip ws) with
  | some ds => noErr (call ds M)
  | none => .bad) = _
  rw [h]
  show (match arrGo l xs [] with | some ds => noErr (call ds M') | none => .bad) = _
  rw [hl]
theorem end_rt {d : D} : endD (.ok (.rt d) M) = .ok d M := rfl
/-! ### comprehensions whose parts change nothing -/
theorem lcGo_filter {tg : Tgt} {ts : DenB} {elt : Den} {g : Gd} {δ : Slots} {p : D → Bool} {f : D → D} (hg : gdOk g M = true) : ∀ {xs : List D}, (∀ x ∈ xs, ∃ δ', setT tg x δ = some δ' ∧ ts δ' M = .ok (p x) M ∧ (p x = true → elt δ' M = .ok (f x) M)) → lcGo tg ts elt g δ xs M = .ok ((xs.filter p).map f) M
  | [], _ => by
    show (if gdOk g M then Res.ok ([] : List D) M else .bad) = _
    rw [if_pos hg]
    rfl
  | x :: xs, h => by
    obtain ⟨δ', h1, h2, h3⟩ := h x (by simp)
    have ih := lcGo_filter (tg := tg) (ts := ts) (elt := elt) (δ := δ) (f := f) hg fun y hy => h y (List.mem_cons_of_mem _ hy)
    show (if gdOk g M then (match setT tg x δ with
      | some δ' => (ts δ' M).bind fun b M => if b then (elt δ' M).bind fun y M => (lcGo tg ts elt g δ xs M).bind fun ys M => .ok (y :: ys) M
        else lcGo tg ts elt g δ xs M
      | none => .bad) else .bad) = _
    rw [if_pos hg, h1]
    show ((ts δ' M).bind fun b M => if b then (elt δ' M).bind fun y M => (lcGo tg ts elt g δ xs M).bind fun ys M => .ok (y :: ys) M else lcGo tg ts elt g δ xs M) = _
    rw [h2, rb_ok]
    cases hp : p x with
    | false => rw [List.filter_cons, hp]; simpa using ih
    | true =>
      rw [if_pos rfl, h3 hp, rb_ok, ih, rb_ok, List.filter_cons, hp]
      rfl
theorem lc_filter {vs : List Nat} {src : DenI} {tg : Tgt} {ts : DenB} {elt : Den} {g : Gd} {δ : Slots} {p : D → Bool} {f : D → D} {xs : List D} (hs : src δ M = .ok (xs, g) M) (hg : gdOk g M = true) (hl : xs.length ≤ sizeLine)
    (h : ∀ x ∈ xs, ∃ δ', setT tg x (wipeD δ vs) = some δ' ∧ ts δ' M = .ok (p x) M ∧ (p x = true → elt δ' M = .ok (f x) M)) : eLc false vs src tg ts elt δ M = .ok (.lst ((xs.filter p).map f)) M := by
  show ((src δ M).bind fun p M => (noErr (lcGo tg ts elt p.2 (wipeD δ vs) p.1 M)).bind fun ys M => if ys.length ≤ sizeLine then newL false ys M else .bad) = _
  rw [hs, rb_ok]
  show ((noErr (lcGo tg ts elt g (wipeD δ vs) xs M)).bind fun ys M => if ys.length ≤ sizeLine then newL false ys M else .bad) = _
  rw [lcGo_filter hg h]
  show (if ((xs.filter p).map f).length ≤ sizeLine then newL false ((xs.filter p).map f) M else .bad) = _
  have : ((xs.filter p).map f).length ≤ sizeLine := by
    rw [List.length_map]
    exact Nat.le_trans (List.length_filter_le _ _) hl
  rw [if_pos this]
  rfl
theorem lc_map {vs : List Nat} {src : DenI} {tg : Tgt} {elt : Den} {g : Gd} {δ : Slots} {f : D → D} {xs : List D} (hs : src δ M = .ok (xs, g) M) (hg : gdOk g M = true) (hl : xs.length ≤ sizeLine)
    (h : ∀ x ∈ xs, ∃ δ', setT tg x (wipeD δ vs) = some δ' ∧ elt δ' M = .ok (f x) M) : eLc false vs src tg (testsD []) elt δ M = .ok (.lst (xs.map f)) M := by
  have := lc_filter (p := fun _ => true) (f := f) (ts := testsD []) hs hg hl fun x hx => let ⟨δ', h1, h2⟩ := h x hx; ⟨δ', h1, rfl, fun _ => h2⟩
  rw [this, List.filter_eq_self.mpr fun _ _ => rfl]
theorem shaped_int {i : Int} : SeqAt.shaped (.int i) = true := rfl
theorem eq_int : eqD (.int i) (.int j) M = some (decide (i = j)) := by
  show (if SeqAt.shaped (.int i) && SeqAt.shaped (.int j) then some (PyData.eqv (.int i) (.int j)) else none) = _
  rw [shaped_int, shaped_int]
  show some (PyData.eqv (.int i) (.int j)) = _
  congr 1
theorem all_true {xs : List D} (h : ∀ x ∈ xs, x = D.bl true) : biD .all [.lst xs] M = .ok (.bl true) M := by
  have e : boolsOf xs = some (xs.map fun _ => true) := by
    induction xs with
    | nil => rfl
    | cons x xs ih =>
      rw [h x (by simp)]
      show (boolsOf xs).map (true :: ·) = _
      rw [ih fun y hy => h y (List.mem_cons_of_mem _ hy)]
      rfl
  show (match (seqOf M (.lst xs)).bind boolsOf with | some bs => Res.ok (D.bl (bs.all id)) M | none => .bad) = _
  rw [show (seqOf M (.lst xs)).bind boolsOf = boolsOf xs from rfl, e]
  show Res.ok (D.bl ((xs.map fun _ => true).all id)) M = _
  simp
theorem all_map_true {xs : List D} : biD .all [.lst (xs.map fun _ => .bl true)] M = .ok (.bl true) M := all_true fun x hx => by
  obtain ⟨_, _, rfl⟩ := List.mem_map.mp hx
  rfl
theorem gd_nil : gdOk [] M = true := rfl
theorem gd_one {n : Nat} {xs : List D} (h : lstAt M n = some xs) : gdOk [(n, xs)] M = true := by
  unfold gdOk
  simp only [List.all_cons, List.all_nil, Bool.and_true, h]
  exact D.sameL_refl xs
end
end Ev
namespace K78
open PySem Ev
def mixA (seed spin at_ : Int) : Int := (seed * 69069 + 104729 * spin * spin + 7919 * at_ + spin).fmod 2147483647
def mixB (m : Int) : Int := ((m * m + 40503).fmod 2147483629 * 48271).fmod 2147483587
theorem mixed_spec (k : Nat) (M : Mem) (seed spin at_ : Int) (h2 : 0 ≤ spin ∧ spin < 2 ^ 60) : callD cfg (k + 1) "_law_mixed" [.int seed, .int spin, .int at_] M = .ok (.int (mixB (mixA seed spin at_))) M := by
  rw [c_x_law_mixed]
  have m1 : mulOk seed 69069 = true := mul_ok (by omega)
  have m2 : mulOk 104729 spin = true := mul_ok' (by omega)
  have m3 : mulOk (104729 * spin) spin = true := mul_ok (by omega)
  have m4 : mulOk 7919 at_ = true := mul_ok' (by omega)
  have b := fmod_lt (a := seed * 69069 + 104729 * spin * spin + 7919 * at_ + spin) 2147483647 (by omega)
  have m5 : mulOk ((seed * 69069 + 104729 * spin * spin + 7919 * at_ + spin).fmod 2147483647) ((seed * 69069 + 104729 * spin * spin + 7919 * at_ + spin).fmod 2147483647) = true := mul_ok (by omega)
  have m6 : ∀ i, mulOk i 48271 = true := fun i => mul_ok (by omega)
  simp [b_x_law_mixed, startD, sSeq, sSet, sRet, eBin, bin_add, bin_mul, bin_mod, add_int, mul_int, mod_int, eV, eC, eBi, eL_nil, eL_one, bi_int, rb_ok, set_nm, end_rt, m1, m2, m3, m4, m5, m6, mixA, mixB]
/-- a purse in the memory -/
def Pu (M : Mem) (n : Nat) (B : Int) : Prop := ∃ a b c d : Int, M[n]? = some (.lst [.int a, .int b, .int c, .int d]) ∧ 0 ≤ a ∧ 0 ≤ c ∧ c ≤ B
/-- M' is M but for the purse -/
def But (M M' : Mem) (n : Nat) : Prop := M'.length = M.length ∧ ∀ j, j ≠ n → M'[j]? = M[j]?
theorem but_set {M : Mem} {n : Nat} {o : Ob} : But M (M.set n o) n := ⟨List.length_set, fun j h => List.getElem?_set_ne (Ne.symm h)⟩
theorem set_at {M : Mem} {n : Nat} {o o' : Ob} (h : M[n]? = some o') : (M.set n o)[n]? = some o := List.getElem?_set_self (List.getElem?_eq_some_iff.mp h).1
theorem bits_small {many : Int} (h : 0 < many ∧ many < 2 ^ 27) : (1 + (((Builtin.Int.intBits many : Nat) : Int)).fdiv 28) = 1 := by
  have : Builtin.Int.intBits many ≤ 27 := PyProof.Rows.intBits_le (by omega)
  have e : (((Builtin.Int.intBits many : Nat) : Int)).fdiv 28 = 0 := by
    rw [Int.fdiv_eq_ediv_of_nonneg _ (by omega)]
    omega
  rw [e]; rfl
theorem draw_spec (k : Nat) (M : Mem) (n : Nat) (B many : Int) (hp : Pu M n B) (hB : B < 2 ^ 59) (hm : 0 < many ∧ many < 2 ^ 27) : ∃ v M', callD cfg (k + 2) "_law_draw" [.ref n, .int many] M = .ok (.int v) M' ∧ 0 ≤ v ∧ v < many ∧ Pu M' n (B + 1) ∧ But M M' n := by
  obtain ⟨a, b, c, d, h, ha, hc, hcB⟩ := hp
  rw [c_x_law_draw]
  have i0 : L2.atI [D.int a, .int b, .int c, .int d] 0 = some (.int a) := rfl
  have n0 : many ≠ 0 := by omega
  have n1 : many.natAbs < 1073741824 := by omega
  by_cases hz : 0 < a
  · refine ⟨a.fmod many, M.set n (.lst [.int (a.fdiv many), .int b, .int c, .int d]), ?_, (fmod_lt _ hm.1).1, (fmod_lt _ hm.1).2, ⟨_, b, c, d, set_at h, ?_, hc, by omega⟩, but_set⟩
    · have s0 : setIx (.ref n) (.int 0) (.int (a.fdiv many)) M = some (M.set n (.lst [.int (a.fdiv many), .int b, .int c, .int d])) := set_ref (xs := [.int a, .int b, .int c, .int d]) (k := 0) h rfl
      simp [b_x_law_draw, startD, sSeq, sIf, tCmp, sSet, sRet, sSetIx, sNx, eBin, eIx, bin_mod, bin_div, mod_int n0, div_int n0 n1, eV, eC, eBi, eL_nil, eL_one, bi_int, rb_ok, set_nm, end_rt, ix_ref h i0, gt_int, optB_some, hz, s0]
    · rw [Int.fdiv_eq_ediv_of_nonneg _ (by omega)]
      exact Int.ediv_nonneg (by omega) (by omega)
  · have a0 : a = 0 := by omega
    subst a0
    have hr : Res.ok (D.int (mixB (mixA b (c + 1) d))) (M.set n (.lst [.int 0, .int b, .int (c + 1), .int d])) = callD cfg (k + 1) "_law_mixed" [.int b, .int (c + 1), .int d] (M.set n (.lst [.int 0, .int b, .int (c + 1), .int d])) := (mixed_spec k _ b (c + 1) d ⟨by omega, by omega⟩).symm
    have h' : (M.set n (.lst [.int 0, .int b, .int (c + 1), .int d]))[n]? = some (.lst [.int 0, .int b, .int (c + 1), .int d]) := set_at h
    refine ⟨(mixB (mixA b (c + 1) d)).fmod many, M.set n (.lst [.int 0, .int b, .int (c + 1), .int d]), ?_, (fmod_lt _ hm.1).1, (fmod_lt _ hm.1).2, ⟨0, b, c + 1, d, h', by omega, by omega, by omega⟩, but_set⟩
    have s0 : setIx (.ref n) (.int 2) (.int (c + 1)) M = some (M.set n (.lst [.int 0, .int b, .int (c + 1), .int d])) := set_ref (xs := [.int 0, .int b, .int c, .int d]) (k := 2) h rfl
    have i2 : L2.atI [D.int 0, .int b, .int c, .int d] 2 = some (.int c) := rfl
    have j1 : L2.atI [D.int 0, .int b, .int (c + 1), .int d] 1 = some (.int b) := rfl
    have j2 : L2.atI [D.int 0, .int b, .int (c + 1), .int d] 2 = some (.int (c + 1)) := rfl
    have j3 : L2.atI [D.int 0, .int b, .int (c + 1), .int d] 3 = some (.int d) := rfl
    have eb := bits_small hm
    have m0 : mulOk 0 2147483587 = true := by decide
    have d28 : (28 : Int).natAbs < 1073741824 := by decide
    have ar : arrGo (withDfl ["seed", "spin", "at"] []) [D.int b, .int (c + 1), .int d] [] = some [.int b, .int (c + 1), .int d] := rfl
    have cal : ∀ δ : Slots, δ[0]? = some (some (.ref n)) → eCall (callD cfg (k + 1) "_law_mixed") (withDfl ["seed", "spin", "at"] []) [(false, (eIx (eV 0) (eC (.int (1))))), (false, (eIx (eV 0) (eC (.int (2))))), (false, (eIx (eV 0) (eC (.int (3)))))] [] [] δ (M.set n (.lst [.int 0, .int b, .int (c + 1), .int d])) = .ok (.int (mixB (mixA b (c + 1) d))) (M.set n (.lst [.int 0, .int b, .int (c + 1), .int d])) := fun δ hδ => by
      rw [call_pos (xs := [.int b, .int (c + 1), .int d]) (M' := M.set n (.lst [.int 0, .int b, .int (c + 1), .int d])) ?_ ar, ← hr]
      · rfl
      · simp [eL_nil, eL_one, eIx, eV, eC, hδ, rb_ok, ix_ref h' j1, ix_ref h' j2, ix_ref h' j3]
    have r1 : in62 1 = true := by decide
    have r2 : rangeD 0 1 = [.int 0] := rfl
    have fin : forGo (Tgt.nm 3) (sSeq (sSetIx (eV 0) (eC (.int 2)) (eBin .Add (eIx (eV 0) (eC (.int 2))) (eC (.int 1)))) (sSet (.nm 2) (eBin .Add (eBin .Mult (eV 2) (eC (.int 2147483587)))
        (eCall (callD cfg (k + 1) "_law_mixed") (withDfl ["seed", "spin", "at"] []) [(false, (eIx (eV 0) (eC (.int (1))))), (false, (eIx (eV 0) (eC (.int (2))))), (false, (eIx (eV 0) (eC (.int (3)))))] [] []))))
        [] [.int 0] [some (.ref n), some (.int many), some (.int 0), none, none] M = .ok (.nx [some (.ref n), some (.int many), some (.int (mixB (mixA b (c + 1) d))), some (.int 0), none]) (M.set n (.lst [.int 0, .int b, .int (c + 1), .int d])) := by
      rw [for_cons rfl]
      simp [sSeq, sSet, sSetIx, eBin, eIx, eV, eC, rb_ok, bin_add, bin_mul, add_int, mul_int m0, ix_ref h i2, s0, cal, set_nm, for_nil]
    simp [b_x_law_draw, startD, sSeq, sIf, tCmp, sSet, sRet, sSetIx, sNx, eBin, eIx, eBits, bin_mod, bin_div, bin_add, bin_mul, add_int, mul_int m0, mod_int n0, div_int _ d28, eV, eC, eBi, eL_nil, eL_one, bi_int, rb_ok, set_nm, end_rt, ix_ref h i0, ix_ref h i2, gt_int, optB_some, s0, sFor, iRange1, eb, r1, r2, fin]
/-! ### the checks -/
theorem isi_int {i : Int} {M : Mem} : isiD M (.int i) (.ty "int") = some true := rfl
theorem isi_int_bool {i : Int} {M : Mem} : isiD M (.int i) (.ty "bool") = some false := rfl
theorem bi_isi {x t : D} {M : Mem} {b : Bool} (h : isiD M x t = some b) : biD .isinstance [x, t] M = .ok (.bl b) M := by
  show optR (isiD M x t) M = _
  rw [h]; rfl
theorem whole_spec (k : Nat) (M : Mem) (i : Int) : callD cfg (k + 1) "is_whole" [.int i] M = .ok (.bl true) M := by
  rw [c_is_whole]
  simp [b_is_whole, startD, sRet, eBool, eAnd, eNot, eBi, eL_nil, eL_one, eV, eC, rb_ok, bi_isi (isi_int (i := i)), bi_isi (isi_int_bool (i := i)), truthD, optR, end_rt]
def Bits (xs : List D) : Prop := ∀ x ∈ xs, x = .int 0 ∨ x = .int 1
theorem atom_spec (k : Nat) (M : Mem) (a c : D) (ts xs : List D) (hx : Bits xs) (hl : xs.length = ts.length) (hz : xs.length ≤ sizeLine) : callD cfg (k + 2) "is_atom_there" [.tup [a, .lst ts, c], .tup xs] M = .ok (.bl true) M := by
  rw [c_is_atom_there]
  have i1 : isiD M (.tup xs) (.ty "tuple") = some true := rfl
  have l1 : biD .len [.tup xs] M = .ok (.int xs.length) M := rfl
  have l2 : biD .len [.lst ts] M = .ok (.int ts.length) M := rfl
  have x1 : ixD (.tup [a, .lst ts, c]) (.int 1) M = .ok (.lst ts) M := rfl
  have ne : cmpD .NotEq (.int xs.length) (.int ts.length) M = some false := by
    show (eqD (.int xs.length) (.int ts.length) M).map (!·) = _
    rw [eq_int, hl]
    simp
  have lc : ∀ δ : Slots, δ[1]? = some (some (.tup xs)) → 2 < δ.length → eLc false [2] (iSeq (eV 1)) (.nm 2) (testsD []) (eBool .And [(eCall (callD cfg (k + 1) "is_whole") (withDfl ["value"] []) [(false, (eV 2))] [] []), (eCmp .In (eV 2) (eTup [(false, (eC (.int (0)))), (false, (eC (.int (1))))]))]) δ M = .ok (.lst (xs.map fun _ => .bl true)) M := fun δ h1 h2 => by
    refine lc_map (g := []) (by simp [iSeq, eV, h1, rb_ok]) gd_nil hz fun x hx' => ⟨_, set_nm, ?_⟩
    obtain ⟨i, rfl, hi⟩ : ∃ i : Int, x = .int i ∧ (i = 0 ∨ i = 1) := by
      rcases hx x hx' with e | e
      · exact ⟨0, e, .inl rfl⟩
      · exact ⟨1, e, .inr rfl⟩
    have g2 : ((wipeD δ [2]).set 2 (some (.int i)))[2]? = some (some (.int i)) := by
      simp [wipeD, h2]
    have call : eCall (callD cfg (k + 1) "is_whole") (withDfl ["value"] []) [(false, (eV 2))] [] [] ((wipeD δ [2]).set 2 (some (.int i))) M = .ok (.bl true) M := by
      rw [call_pos (xs := [.int i]) (ys := [.int i]) (M' := M) (by simp [eL_nil, eL_one, eV, g2, rb_ok]) rfl, whole_spec]
      rfl
    have isin : cmpD .In (.int i) (.tup [.int 0, .int 1]) M = some true := by
      rcases hi with rfl | rfl <;> rfl
    have g0 : guardR (decide (([.int 0, .int 1] : List D).length ≤ sizeLine)) (.tup [.int 0, .int 1]) M = .ok (.tup [.int 0, .int 1]) M := g_true' (by decide)
    simp only [eBool, eAnd, call, rb_ok, truthD, eCmp, eTup, eL_nil, eL_one, eC, eV, g2, g0, isin, optR_some]
  simp [b_is_atom_there, startD, sSeq, sIf, tBool, tOr, tNot, tD, tCmp, sNx, sRet, eBi, eL_nil, eL_one, eV, eC, eIx, rb_ok, bi_isi i1, l1, l2, x1, ne, truthD, optB_some, lc, all_map_true, end_rt]
/-- rising -/
def Ris (xs : List D) : Prop := xs.Pairwise fun a b => ltD a b = some true
theorem cut1 (xs : List D) : cutD xs (some 1) none = xs.drop 1 := by
  cases xs with
  | nil => rfl
  | cons x xs =>
    unfold cutD HT.sIx
    simp
theorem zip_next : ∀ {xs : List D} {p : D}, Ris xs → p ∈ zipD xs (xs.drop 1) → ∃ a b, p = .tup [a, b] ∧ ltD a b = some true
  | [], p, _, h => by simp [zipD] at h
  | [a], p, _, h => by simp [zipD] at h
  | a :: b :: r, p, hr, h => by
    have h : p ∈ D.tup [a, b] :: zipD (b :: r) r := h
    rcases List.mem_cons.mp h with e | h
    · exact ⟨a, b, e, (List.pairwise_cons.mp hr).1 b (by simp)⟩
    · exact zip_next (List.pairwise_cons.mp hr).2 h
theorem rising_spec (k : Nat) (M : Mem) (xs : List D) (hr : Ris xs) (hz : xs.length ≤ sizeLine) : callD cfg (k + 1) "is_rising" [.lst xs] M = .ok (.bl true) M := by
  rw [c_is_rising]
  have lc : eLc false [1, 2] (iZip (eV 0) (eSl (eV 0) (oSome (eC (.int (1)))) oNone)) (.tp [.nm 1, .nm 2]) (testsD []) (eCmp .Lt (eV 1) (eV 2)) [some (.lst xs), none, none] M = .ok (.lst ((zipD xs (xs.drop 1)).map fun _ => .bl true)) M := by
    refine lc_map (g := []) ?_ gd_nil (by rw [zipD_len]; omega) fun x hx => ?_
    · simp [iZip, eV, eSl, oSome, oNone, eC, rb_ok, slD, seqOf, cut1, seqG]
    · obtain ⟨a, b, rfl, h⟩ := zip_next hr hx
      refine ⟨[some (.lst xs), some a, some b], rfl, ?_⟩
      have e : cmpD .Lt a b M = some true := h
      simp [eCmp, eV, rb_ok, e, optR_some]
  simp [b_is_rising, startD, sRet, eBi, eL_nil, eL_one, rb_ok, lc, all_map_true, end_rt]
/-- a lot of a speech with the tests ts -/
structure Lot (ts xs : List D) : Prop where
  atoms : ∀ x ∈ xs, ∃ bs, x = .tup bs ∧ Bits bs ∧ bs.length = ts.length
  ris : Ris xs
  small : xs.length ≤ sizeLine
theorem lot_spec (k : Nat) (M : Mem) (a c : D) (ts xs : List D) (h : Lot ts xs) (hts : ts.length ≤ sizeLine) : callD cfg (k + 3) "is_lot_there" [.tup [a, .lst ts, c], .lst xs] M = .ok (.bl true) M := by
  rw [c_is_lot_there]
  have i1 : isiD M (.lst xs) (.ty "list") = some true := rfl
  have lc : eLc false [2] (iSeq (eV 1)) (.nm 2) (testsD []) (eCall (callD cfg (k + 2) "is_atom_there") (withDfl ["speech", "value"] []) [(false, (eV 0)), (false, (eV 2))] [] []) [some (.tup [a, .lst ts, c]), some (.lst xs), none] M = .ok (.lst (xs.map fun _ => .bl true)) M := by
    refine lc_map (g := []) (by simp [iSeq, eV, rb_ok, seqG]) gd_nil h.small fun x hx => ⟨_, set_nm, ?_⟩
    obtain ⟨bs, rfl, h1, h2⟩ := h.atoms x hx
    rw [call_pos (xs := [.tup [a, .lst ts, c], .tup bs]) (ys := [.tup [a, .lst ts, c], .tup bs]) (M' := M) (by simp [eL_nil, eL_one, eV, wipeD, rb_ok]) rfl, atom_spec k M a c ts bs h1 h2 (by omega)]
    rfl
  have ri : eCall (callD cfg (k + 2) "is_rising") (withDfl ["items"] []) [(false, (eV 1))] [] [] [some (.tup [a, .lst ts, c]), some (.lst xs), none] M = .ok (.bl true) M := by
    rw [call_pos (xs := [.lst xs]) (ys := [.lst xs]) (M' := M) (by simp [eL_nil, eL_one, eV, rb_ok]) rfl, rising_spec (k + 1) M xs h.ris h.small]
    rfl
  simp [b_is_lot_there, startD, sRet, eBool, eAnd, eBi, eL_nil, eL_one, eV, eC, rb_ok, bi_isi i1, truthD, lc, all_map_true, ri, end_rt]
/-- lots -/
theorem lots_spec (k : Nat) (M : Mem) (a c : D) (ts : List D) (lots : List (List D)) (lo hi : Int) (h : ∀ l ∈ lots, Lot ts l) (hts : ts.length ≤ sizeLine) (h1 : lo ≤ lots.length) (h2 : (lots.length : Int) ≤ hi) (hz : lots.length ≤ sizeLine) :
    callD cfg (k + 4) "is_lots_there" [.tup [a, .lst ts, c], .lst (lots.map .lst), .int lo, .int hi] M = .ok (.bl true) M := by
  rw [c_is_lots_there]
  have i1 : isiD M (.lst (lots.map .lst)) (.ty "list") = some true := rfl
  have l1 : biD .len [.lst (lots.map .lst)] M = .ok (.int lots.length) M := by
    show Res.ok (D.int ((lots.map D.lst).length : Nat)) M = _
    rw [List.length_map]
  have c1 : cmpD .LtE (.int lo) (.int lots.length) M = some true := by show some (decide _) = _; rw [decide_eq_true h1]
  have c2 : cmpD .LtE (.int lots.length) (.int hi) M = some true := by show some (decide _) = _; rw [decide_eq_true h2]
  have lc : eLc false [4] (iSeq (eV 1)) (.nm 4) (testsD []) (eCall (callD cfg (k + 3) "is_lot_there") (withDfl ["speech", "value"] []) [(false, (eV 0)), (false, (eV 4))] [] []) [some (.tup [a, .lst ts, c]), some (.lst (lots.map .lst)), some (.int lo), some (.int hi), none] M = .ok (.lst ((lots.map D.lst).map fun _ => .bl true)) M := by
    refine lc_map (g := []) (by simp [iSeq, eV, rb_ok, seqG]) gd_nil (by rw [List.length_map]; exact hz) fun x hx => ⟨_, set_nm, ?_⟩
    obtain ⟨l, hl, rfl⟩ := List.mem_map.mp hx
    rw [call_pos (xs := [.tup [a, .lst ts, c], .lst l]) (ys := [.tup [a, .lst ts, c], .lst l]) (M' := M) (by simp [eL_nil, eL_one, eV, wipeD, rb_ok]) rfl, lot_spec k M a c ts l (h l hl) hts]
    rfl
  have al : biD .all [.lst (lots.map ((fun _ => D.bl true) ∘ D.lst))] M = .ok (.bl true) M := all_true fun x hx => by
    obtain ⟨_, _, rfl⟩ := List.mem_map.mp hx
    rfl
  simp only [b_is_lots_there, startD, sSeq, sIf, tBool, tOr, tNot, tD, tCmp2, sNx, sRet, eBi, eL_nil, eL_one, eV, eC, rb_ok, List.length_cons, List.length_nil, List.map_cons, List.map_nil, List.cons_append, List.nil_append]
  simp [bi_isi i1, l1, c1, c2, truthD, optB_some, rb_ok, lc, al, end_rt]
/-! ### the plain law: the first way through that no other lot of lots has -/
/-- others left at place at: those that have the atom there -/
def keepO (x : D) (at_ : Nat) (os : List (List (List D))) : List (List (List D)) := os.filter fun o => inF' x (o.getD at_ [])
where inF' (x : D) (ys : List D) : Bool := ys.any fun y => D.same y x
def firstSome (f : D → Option (List D)) : List D → Option (List D)
  | [] => none
  | x :: xs => match f x with
    | some r => some r
    | none => firstSome f xs
/-- gone through: the lots from place at on -/
def gone : List (List D) → Nat → List (List (List D)) → Option (List D)
  | [], _, os => if os.isEmpty then some [] else none
  | l :: ls, at_, os => firstSome (fun x => (gone ls (at_ + 1) (keepO x at_ os)).map (x :: ·)) l
end K78
set_option Elab.async false
set_option linter.all false
set_option maxRecDepth 100000
set_option maxHeartbeats 4000000
namespace K78
open PySem Ev
def tsOf (n : Nat) : List D := [D.str "a", .str "b", .str "c", .str "d"].take n
def psOf (n : Nat) : List D := [D.str "p"].take n
def speech (t p : Nat) : D := .tup [.str "speech", .lst (tsOf t), .lst (psOf p)]
theorem check_spec (k t p : Nat) (M : Mem) (ht : t < 5) (hp : p < 2) : callD cfg (k + 5) "check_speech" [speech t p] M = .ok .non M := by
  have c00 : callD cfg (k + 5) "check_speech" [speech 0 0] M = .ok .non M := by kernel_rfl
  have c01 : callD cfg (k + 5) "check_speech" [speech 0 1] M = .ok .non M := by kernel_rfl
  have c10 : callD cfg (k + 5) "check_speech" [speech 1 0] M = .ok .non M := by kernel_rfl
  have c11 : callD cfg (k + 5) "check_speech" [speech 1 1] M = .ok .non M := by kernel_rfl
  have c20 : callD cfg (k + 5) "check_speech" [speech 2 0] M = .ok .non M := by kernel_rfl
  have c21 : callD cfg (k + 5) "check_speech" [speech 2 1] M = .ok .non M := by kernel_rfl
  have c30 : callD cfg (k + 5) "check_speech" [speech 3 0] M = .ok .non M := by kernel_rfl
  have c31 : callD cfg (k + 5) "check_speech" [speech 3 1] M = .ok .non M := by kernel_rfl
  have c40 : callD cfg (k + 5) "check_speech" [speech 4 0] M = .ok .non M := by kernel_rfl
  have c41 : callD cfg (k + 5) "check_speech" [speech 4 1] M = .ok .non M := by kernel_rfl
  match t, p, ht, hp with
  | 0, 0, _, _ => exact c00
  | 0, 1, _, _ => exact c01
  | 1, 0, _, _ => exact c10
  | 1, 1, _, _ => exact c11
  | 2, 0, _, _ => exact c20
  | 2, 1, _, _ => exact c21
  | 3, 0, _, _ => exact c30
  | 3, 1, _, _ => exact c31
  | 4, 0, _, _ => exact c40
  | 4, 1, _, _ => exact c41
  | t + 5, _, h, _ => exact absurd h (by omega)
  | _, p + 2, _, h => exact absurd h (by omega)
/-- all atoms over n tests, in order -/
def atomsB : Nat → List (List D)
  | 0 => [[]]
  | n + 1 => (atomsB n).flatMap fun a => [a ++ [.int 0], a ++ [.int 1]]
def atoms (n : Nat) : List D := (atomsB n).map .tup
theorem atoms_spec (k t p : Nat) (M : Mem) (ht : t < 5) (hp : p < 2) : callD cfg (k + 1) "_law_atoms" [speech t p] M = .ok (.lst (atoms t)) M := by
  have c00 : callD cfg (k + 1) "_law_atoms" [speech 0 0] M = .ok (.lst (atoms 0)) M := by kernel_rfl
  have c01 : callD cfg (k + 1) "_law_atoms" [speech 0 1] M = .ok (.lst (atoms 0)) M := by kernel_rfl
  have c10 : callD cfg (k + 1) "_law_atoms" [speech 1 0] M = .ok (.lst (atoms 1)) M := by kernel_rfl
  have c11 : callD cfg (k + 1) "_law_atoms" [speech 1 1] M = .ok (.lst (atoms 1)) M := by kernel_rfl
  have c20 : callD cfg (k + 1) "_law_atoms" [speech 2 0] M = .ok (.lst (atoms 2)) M := by kernel_rfl
  have c21 : callD cfg (k + 1) "_law_atoms" [speech 2 1] M = .ok (.lst (atoms 2)) M := by kernel_rfl
  have c30 : callD cfg (k + 1) "_law_atoms" [speech 3 0] M = .ok (.lst (atoms 3)) M := by kernel_rfl
  have c31 : callD cfg (k + 1) "_law_atoms" [speech 3 1] M = .ok (.lst (atoms 3)) M := by kernel_rfl
  have c40 : callD cfg (k + 1) "_law_atoms" [speech 4 0] M = .ok (.lst (atoms 4)) M := by kernel_rfl
  have c41 : callD cfg (k + 1) "_law_atoms" [speech 4 1] M = .ok (.lst (atoms 4)) M := by kernel_rfl
  match t, p, ht, hp with
  | 0, 0, _, _ => exact c00
  | 0, 1, _, _ => exact c01
  | 1, 0, _, _ => exact c10
  | 1, 1, _, _ => exact c11
  | 2, 0, _, _ => exact c20
  | 2, 1, _, _ => exact c21
  | 3, 0, _, _ => exact c30
  | 3, 1, _, _ => exact c31
  | 4, 0, _, _ => exact c40
  | 4, 1, _, _ => exact c41
  | t + 5, _, h, _ => exact absurd h (by omega)
  | _, p + 2, _, h => exact absurd h (by omega)
theorem atomsB_bits : ∀ n, ∀ bs ∈ atomsB n, Bits bs ∧ bs.length = n
  | 0, bs, h => by
    have : bs = [] := by simpa [atomsB] using h
    subst this
    exact ⟨fun x hx => (by cases hx), rfl⟩
  | n + 1, bs, h => by
    obtain ⟨a, ha, h⟩ := List.mem_flatMap.mp h
    obtain ⟨h1, h2⟩ := atomsB_bits n a ha
    have e : bs = a ++ [.int 0] ∨ bs = a ++ [.int 1] := by simpa using h
    rcases e with e | e
    · subst e
      exact ⟨fun x hx => (List.mem_append.mp hx).elim (h1 x) fun z => .inl (by simpa using z), by simp [h2]⟩
    · subst e
      exact ⟨fun x hx => (List.mem_append.mp hx).elim (h1 x) fun z => .inr (by simpa using z), by simp [h2]⟩
theorem tsOf_len {t : Nat} (h : t < 5) : (tsOf t).length = t := by
  unfold tsOf
  rw [List.length_take]
  simp
  omega
theorem atoms_ris {t : Nat} (h : t < 5) : Ris (atoms t) := by
  match t, h with
  | 0, _ => unfold Ris; decide +kernel
  | 1, _ => unfold Ris; decide +kernel
  | 2, _ => unfold Ris; decide +kernel
  | 3, _ => unfold Ris; decide +kernel
  | 4, _ => unfold Ris; decide +kernel
  | t + 5, h => exact absurd h (by omega)
theorem atoms_len {t : Nat} (h : t < 5) : (atoms t).length ≤ 16 := by
  match t, h with
  | 0, _ => decide +kernel
  | 1, _ => decide +kernel
  | 2, _ => decide +kernel
  | 3, _ => decide +kernel
  | 4, _ => decide +kernel
  | t + 5, h => exact absurd h (by omega)
theorem line16 : 400 ≤ sizeLine := by decide
theorem sub_lot {t : Nat} (h : t < 5) {xs : List D} (hs : xs.Sublist (atoms t)) : Lot (tsOf t) xs where
  atoms := fun x hx => by
    obtain ⟨bs, hb, rfl⟩ := List.mem_map.mp (hs.subset hx)
    obtain ⟨h1, h2⟩ := atomsB_bits t bs hb
    exact ⟨bs, rfl, h1, by rw [tsOf_len h]; exact h2⟩
  ris := (atoms_ris h).sublist hs
  small := by
    have := hs.length_le
    have := atoms_len h
    have := line16
    omega
/-! ### drawing -/
theorem But.refl (M : Mem) (n : Nat) : But M M n := ⟨rfl, fun _ _ => rfl⟩
theorem But.trans {M M1 M2 : Mem} {n : Nat} (a : But M M1 n) (b : But M1 M2 n) : But M M2 n := ⟨b.1.trans a.1, fun j h => (b.2 j h).trans (a.2 j h)⟩
theorem Pu.mono {M : Mem} {n : Nat} {B C : Int} (h : Pu M n B) (l : B ≤ C) : Pu M n C := by
  obtain ⟨a, b, c, d, h1, h2, h3, h4⟩ := h
  exact ⟨a, b, c, d, h1, h2, h3, by omega⟩
/-- a comprehension that draws in its test -/
theorem lcGo_draw {ts : DenB} {elt : Den} {δ : Slots} {i n : Nat} (h : ∀ x M B, Pu M n B → B < 2 ^ 58 → ∃ b M', ts (δ.set i (some x)) M = .ok b M' ∧ Pu M' n (B + 1) ∧ But M M' n) (he : ∀ x M, elt (δ.set i (some x)) M = .ok x M) :
    ∀ (xs : List D) (M : Mem) (B : Int), Pu M n B → B + xs.length < 2 ^ 58 → ∃ ys M', lcGo (.nm i) ts elt [] δ xs M = .ok ys M' ∧ ys.Sublist xs ∧ Pu M' n (B + xs.length) ∧ But M M' n
  | [], M, B, hp, _ => ⟨[], M, rfl, List.Sublist.slnil, by simpa using hp, But.refl M n⟩
  | x :: xs, M, B, hp, hB => by
    rw [List.length_cons] at hB
    obtain ⟨b, M1, h1, h2, h3⟩ := h x M B hp (by omega)
    obtain ⟨ys, M2, g1, g2, g3, g4⟩ := lcGo_draw h he xs M1 (B + 1) h2 (by omega)
    have e : lcGo (.nm i) ts elt [] δ (x :: xs) M = ((ts (δ.set i (some x)) M).bind fun b M => if b then (elt (δ.set i (some x)) M).bind fun y M => (lcGo (.nm i) ts elt [] δ xs M).bind fun ys M => .ok (y :: ys) M else lcGo (.nm i) ts elt [] δ xs M) := rfl
    have g3' : Pu M2 n (B + (xs.length + 1 : Nat)) := g3.mono (by omega)
    rw [e, h1, rb_ok]
    cases b with
    | false => exact ⟨ys, M2, by rw [if_neg (by decide)]; exact g1, g2.cons x, g3', h3.trans g4⟩
    | true => exact ⟨x :: ys, M2, by rw [if_pos rfl, he, rb_ok, g1, rb_ok], g2.cons₂ x, g3', h3.trans g4⟩
theorem lot_draw (k : Nat) (M : Mem) (n t : Nat) (B : Int) (ht : t < 5) (hp : Pu M n B) (hB : B < 2 ^ 50) : ∃ xs M', callD cfg (k + 3) "_law_lot" [.ref n, .lst (atoms t)] M = .ok (.lst xs) M' ∧ xs.Sublist (atoms t) ∧ Pu M' n (B + 17) ∧ But M M' n := by
  obtain ⟨w, M1, h1, h2, h3, h4, h5⟩ := draw_spec k M n B 6 hp (by omega) (by decide)
  rw [c_x_law_lot]
  have la := atoms_len ht
  have d6 : eCall (callD cfg (k + 2) "_law_draw") (withDfl ["purse", "many"] []) [(false, (eV 0)), (false, (eC (.int (6))))] [] [] [some (.ref n), some (.lst (atoms t)), none, none] M = .ok (.int w) M1 := by
    rw [call_pos (xs := [.ref n, .int 6]) (ys := [.ref n, .int 6]) (M' := M) rfl rfl, h1]
    rfl
  by_cases hw : w < 2
  · refine ⟨atoms t, M1, ?_, List.Sublist.refl _, h4.mono (by omega), h5⟩
    have el : eList false [(false, eV 1)] [some (.ref n), some (.lst (atoms t)), some (.int w), none] M1 = .ok (.lst (atoms t)) M1 := rfl
    simp [b_x_law_lot, startD, sSeq, sSet, sIf, sRet, tCmp, eV, eC, rb_ok, d6, set_nm, lt_int, optB_some, hw, el, end_rt]
  · have key : ∀ x M B, Pu M n B → B < 2 ^ 58 → ∃ b M', (tCmp .Gt (eCall (callD cfg (k + 2) "_law_draw") (withDfl ["purse", "many"] []) [(false, (eV 0)), (false, (eIf (tCmp .Lt (eV 2) (eC (.int (5)))) (eC (.int (2))) (eC (.int (4)))))] [] []) (eC (.int (0)))) (([some (.ref n), some (.lst (atoms t)), some (.int w), none] : Slots).set 3 (some x)) M = .ok b M' ∧ Pu M' n (B + 1) ∧ But M M' n := fun x M B hp hB => by
      have aux : ∀ many : Int, 0 < many ∧ many < 2 ^ 27 → (eIf (tCmp .Lt (eV 2) (eC (.int (5)))) (eC (.int (2))) (eC (.int (4)))) ([some (.ref n), some (.lst (atoms t)), some (.int w), some x] : Slots) M = .ok (.int many) M → ∃ b M', (tCmp .Gt (eCall (callD cfg (k + 2) "_law_draw") (withDfl ["purse", "many"] []) [(false, (eV 0)), (false, (eIf (tCmp .Lt (eV 2) (eC (.int (5)))) (eC (.int (2))) (eC (.int (4)))))] [] []) (eC (.int (0)))) ([some (.ref n), some (.lst (atoms t)), some (.int w), some x] : Slots) M = .ok b M' ∧ Pu M' n (B + 1) ∧ But M M' n := fun many hm he => by
        obtain ⟨v, M', g1, g2, g3, g4, g5⟩ := draw_spec k M n B many hp (by omega) hm
        refine ⟨decide (0 < v), M', ?_, g4, g5⟩
        have c : eCall (callD cfg (k + 2) "_law_draw") (withDfl ["purse", "many"] []) [(false, (eV 0)), (false, (eIf (tCmp .Lt (eV 2) (eC (.int (5)))) (eC (.int (2))) (eC (.int (4)))))] [] [] ([some (.ref n), some (.lst (atoms t)), some (.int w), some x] : Slots) M = .ok (.int v) M' := by
          rw [call_pos (xs := [.ref n, .int many]) (ys := [.ref n, .int many]) (M' := M) ?_ rfl, g1]
          · rfl
          · rw [eL_one, show eV 0 ([some (.ref n), some (.lst (atoms t)), some (.int w), some x] : Slots) M = .ok (.ref n) M from rfl, rb_ok, eL_one, he, rb_ok]
            rfl
        show (_ : Res D).bind _ = _
        rw [c]
        rfl
      by_cases h5 : w < 5
      · exact aux 2 (by decide) (by simp [eIf, tCmp, eV, eC, rb_ok, lt_int, optB_some, h5])
      · exact aux 4 (by decide) (by simp [eIf, tCmp, eV, eC, rb_ok, lt_int, optB_some, h5])
    obtain ⟨ys, M2, g1, g2, g3, g4⟩ := lcGo_draw key (elt := eV 3) (fun x M => rfl) (atoms t) M1 (B + 1) h4 (by omega)
    refine ⟨ys, M2, ?_, g2, g3.mono (by omega), h5.trans g4⟩
    have lc : eLc false [3] (iSeq (eV 1)) (.nm 3) (testsD [(tCmp .Gt (eCall (callD cfg (k + 2) "_law_draw") (withDfl ["purse", "many"] []) [(false, (eV 0)), (false, (eIf (tCmp .Lt (eV 2) (eC (.int (5)))) (eC (.int (2))) (eC (.int (4)))))] [] []) (eC (.int (0))))]) (eV 3) [some (.ref n), some (.lst (atoms t)), some (.int w), none] M1 = .ok (.lst ys) M2 := by
      have ly : ys.length ≤ sizeLine := by
        have := g2.length_le
        have := line16
        omega
      show ((noErr (lcGo (.nm 3) (testsD [(tCmp .Gt (eCall (callD cfg (k + 2) "_law_draw") (withDfl ["purse", "many"] []) [(false, (eV 0)), (false, (eIf (tCmp .Lt (eV 2) (eC (.int (5)))) (eC (.int (2))) (eC (.int (4)))))] [] []) (eC (.int (0))))]) (eV 3) [] [some (.ref n), some (.lst (atoms t)), some (.int w), none] (atoms t) M1)).bind fun ys M => if ys.length ≤ sizeLine then newL false ys M else .bad) = _
      have g1' : lcGo (.nm 3) (testsD [(tCmp .Gt (eCall (callD cfg (k + 2) "_law_draw") (withDfl ["purse", "many"] []) [(false, (eV 0)), (false, (eIf (tCmp .Lt (eV 2) (eC (.int (5)))) (eC (.int (2))) (eC (.int (4)))))] [] []) (eC (.int (0))))]) (eV 3) [] [some (.ref n), some (.lst (atoms t)), some (.int w), none] (atoms t) M1 = .ok ys M2 := g1
      rw [g1']
      show (if ys.length ≤ sizeLine then newL false ys M2 else .bad) = _
      rw [if_pos ly]
      rfl
    simp [b_x_law_lot, startD, sSeq, sSet, sIf, sRet, sNx, tCmp, eV, eC, rb_ok, d6, set_nm, lt_int, optB_some, hw, lc, end_rt]
end K78
set_option Elab.async false
set_option linter.all false
set_option maxRecDepth 100000
set_option maxHeartbeats 4000000
/-! O78: data as the evaluator compares it; gone through. -/
namespace Ev
open PySem
mutual
def pOf : D → PyData
  | .bl b => .bool b
  | .int i => .int i
  | .str s => .str s
  | .tup xs => .tuple (pOfs xs)
  | .lst xs => .list (pOfs xs)
  | .frz xs => .list (pOfs xs)
  | _ => .none
def pOfs : List D → List PyData
  | [] => []
  | x :: xs => pOf x :: pOfs xs
end
/-- plain data, less than h deep -/
def Pl : Nat → D → Bool
  | 0, _ => false
  | h + 1, d => match d with
    | .non => true
    | .bl _ => true
    | .int _ => true
    | .str s => PyData.canLay0 (.str s)
    | .tup xs => xs.all (Pl h)
    | .lst xs => xs.all (Pl h)
    | .frz xs => xs.all (Pl h)
    | _ => false
/-- it reads as p -/
def Pd (M : Mem) (h : Nat) (d : D) (p : PyData) : Prop := (∀ m, h ≤ m → toP M m d = some p) ∧ p.canLay0 = true ∧ p.depth ≤ h
theorem pds {M : Mem} {h : Nat} (ih : ∀ d, Pl h d = true → Pd M h d (pOf d)) : ∀ {xs : List D}, xs.all (Pl h) = true → (∀ m, h ≤ m → mapO (toP M m) xs = some (pOfs xs)) ∧ PyData.canLayAll0 (pOfs xs) = true ∧ PyData.depthAll (pOfs xs) ≤ h
  | [], _ => ⟨fun _ _ => rfl, rfl, Nat.zero_le _⟩
  | x :: xs, hx => by
    simp only [List.all_cons, Bool.and_eq_true] at hx
    obtain ⟨a1, a2, a3⟩ := ih x hx.1
    obtain ⟨b1, b2, b3⟩ := pds ih hx.2
    refine ⟨fun m hm => ?_, ?_, ?_⟩
    · rw [mapO, a1 m hm, b1 m hm]
      rfl
    · show ((pOf x).canLay0 && PyData.canLayAll0 (pOfs xs)) = true
      rw [a2, b2]; rfl
    · show max (pOf x).depth (PyData.depthAll (pOfs xs)) ≤ h
      omega
theorem pd_of {M : Mem} : ∀ (h : Nat) (d : D), Pl h d = true → Pd M h d (pOf d)
  | 0, _, h => by cases h
  | h + 1, d, hp => by
    have up : ∀ {m}, h + 1 ≤ m → ∃ m', m = m' + 1 ∧ h ≤ m' := fun {m} hm => ⟨m - 1, by omega, by omega⟩
    cases d with
    | non => exact ⟨fun m hm => by obtain ⟨m', rfl, _⟩ := up hm; rfl, rfl, Nat.zero_le _⟩
    | bl b => exact ⟨fun m hm => by obtain ⟨m', rfl, _⟩ := up hm; rfl, rfl, Nat.zero_le _⟩
    | int i => exact ⟨fun m hm => by obtain ⟨m', rfl, _⟩ := up hm; rfl, rfl, Nat.zero_le _⟩
    | str s => exact ⟨fun m hm => by obtain ⟨m', rfl, _⟩ := up hm; rfl, hp, Nat.zero_le _⟩
    | tup xs =>
      obtain ⟨b1, b2, b3⟩ := pds (M := M) (pd_of h) (show xs.all (Pl h) = true from hp)
      refine ⟨fun m hm => ?_, b2, Nat.succ_le_succ b3⟩
      obtain ⟨m', rfl, h'⟩ := up hm
      show (mapO (toP M m') xs).map PyData.tuple = _
      rw [b1 m' h']
      rfl
    | lst xs =>
      obtain ⟨b1, b2, b3⟩ := pds (M := M) (pd_of h) (show xs.all (Pl h) = true from hp)
      refine ⟨fun m hm => ?_, b2, Nat.succ_le_succ b3⟩
      obtain ⟨m', rfl, h'⟩ := up hm
      show (mapO (toP M m') xs).map PyData.list = _
      rw [b1 m' h']
      rfl
    | frz xs =>
      obtain ⟨b1, b2, b3⟩ := pds (M := M) (pd_of h) (show xs.all (Pl h) = true from hp)
      refine ⟨fun m hm => ?_, b2, Nat.succ_le_succ b3⟩
      obtain ⟨m', rfl, h'⟩ := up hm
      show (mapO (toP M m') xs).map PyData.list = _
      rw [b1 m' h']
      rfl
    | _ => cases hp
/-- a list of the memory -/
theorem pd_ref {M : Mem} {h n : Nat} {xs : List D} (e : lstAt M n = some xs) (hp : xs.all (Pl h) = true) : Pd M (h + 1) (.ref n) (.list (pOfs xs)) := by
  obtain ⟨b1, b2, b3⟩ := pds (M := M) (pd_of h) hp
  refine ⟨fun m hm => ?_, b2, Nat.succ_le_succ b3⟩
  obtain ⟨m', rfl⟩ : ∃ m', m = m' + 1 := ⟨m - 1, by omega⟩
  show (match lstAt M n with | some xs => (mapO (toP M m') xs).map PyData.list | none => none) = _
  rw [e]
  show (mapO (toP M m') xs).map PyData.list = _
  rw [b1 m' (by omega)]
  rfl
theorem eqD_pd {M : Mem} {x y : D} {p q : PyData} {h h' : Nat} (hx : Pd M h x p) (hy : Pd M h' y q) (l : h ≤ 64) (l' : h' ≤ 64) : eqD x y M = some (PyData.eqv p q) := by
  unfold eqD
  rw [hx.1 70 (by omega), hy.1 70 (by omega)]
  have s1 : SeqAt.shaped p = true := by unfold SeqAt.shaped; rw [hx.2.1, decide_eq_true (Nat.le_trans hx.2.2 l)]; rfl
  have s2 : SeqAt.shaped q = true := by unfold SeqAt.shaped; rw [hy.2.1, decide_eq_true (Nat.le_trans hy.2.2 l')]; rfl
  simp [s1, s2]
mutual
theorem eqv_self : ∀ p : PyData, p.canLay0 = true → PyData.eqv p p = true
  | .none, _ => rfl
  | .bool b, _ => by simp [PyData.eqv]
  | .int i, _ => by simp [PyData.eqv]
  | .str s, _ => by simp [PyData.eqv]
  | .list xs, h => by rw [PyData.eqv]; exact eqvs_self xs h
  | .tuple xs, h => by rw [PyData.eqv]; exact eqvs_self xs h
  | .dict _, h => by cases h
theorem eqvs_self : ∀ ps : List PyData, PyData.canLayAll0 ps = true → PyData.eqvAll ps ps = true
  | [], _ => rfl
  | x :: xs, h => by
    have h : (x.canLay0 && PyData.canLayAll0 xs) = true := h
    rw [Bool.and_eq_true] at h
    rw [PyData.eqvAll, eqv_self x h.1, eqvs_self xs h.2]
    rfl
end
end Ev
set_option Elab.async false
set_option linter.all false
set_option maxRecDepth 100000
set_option maxHeartbeats 4000000
/-! P78: _law_gone_through. -/
namespace K78
open PySem Ev
/-- x is one of ys -/
def hasA (x : D) (ys : List D) : Bool := (pOfs ys).any fun z => PyData.eqv z (pOf x)
def lotsD (ls : List (List D)) : D := .lst (ls.map .lst)
def osD (os : List (List (List D))) : List D := os.map lotsD
/-- plain atoms -/
def Pa (ys : List D) : Prop := ∀ x ∈ ys, Pl 8 x = true ∧ flatD x = false
theorem in_spec {M : Mem} {x : D} {ys : List D} (hx : Pl 8 x = true) (hf : flatD x = false) (hy : Pa ys) : cmpD .In x (.lst ys) M = some (hasA x ys) := by
  show inD.inL x ys M = _
  unfold inD.inL
  have p1 := pd_of (M := M) 8 x hx
  have p2 := pd_of (M := M) 9 (.lst ys) (by show ys.all (Pl 8) = true; exact List.all_eq_true.mpr fun y h => (hy y h).1)
  rw [if_neg (by rw [hf]; simp), p1.1 70 (by omega), p2.1 70 (by omega)]
  have s1 : SeqAt.shaped (pOf x) = true := by unfold SeqAt.shaped; rw [p1.2.1, decide_eq_true (Nat.le_trans p1.2.2 (by omega))]; rfl
  have s2 : SeqAt.shaped (.list (pOfs ys)) = true := by
    have l := p2.2.2
    unfold SeqAt.shaped
    rw [show (PyData.list (pOfs ys)).canLay0 = true from p2.2.1, decide_eq_true (show (PyData.list (pOfs ys)).depth ≤ 64 from Nat.le_trans l (by omega))]; rfl
  show (if SeqAt.shaped (pOf x) && SeqAt.shaped (.list (pOfs ys)) then some ((pOfs ys).any fun z => PyData.eqv z (pOf x)) else none) = _
  rw [s1, s2]
  rfl
def keepA (x : D) (i : Nat) (os : List (List (List D))) : List (List (List D)) := os.filter fun o => hasA x (o.getD i [])
def through : List (List D) → Nat → List (List (List D)) → Option (List D)
  | [], _, os => if os.isEmpty then some [] else none
  | l :: ls, i, os => firstSome (fun x => (through ls (i + 1) (keepA x i os)).map (x :: ·)) l
def toD (lead : List D) : Option (List D) → D
  | some r => .lst (lead ++ r)
  | none => .non
/-- lots and others as the law has them -/
structure Ok (n : Nat) (os : List (List (List D))) : Prop where
  len : ∀ o ∈ os, o.length = n
  pa : ∀ o ∈ os, ∀ l ∈ o, Pa l
  few : os.length ≤ 400
theorem Ok.keep {n : Nat} {os : List (List (List D))} (h : Ok n os) (x : D) (i : Nat) : Ok n (keepA x i os) where
  len := fun o ho => h.len o (List.mem_filter.mp ho).1
  pa := fun o ho => h.pa o (List.mem_filter.mp ho).1
  few := Nat.le_trans (List.length_filter_le _ _) h.few
theorem atI_nat {xs : List D} {i : Nat} : L2.atI xs (i : Int) = xs[i]? := by
  unfold L2.atI L2.ixN
  rw [if_pos (by omega)]
  by_cases h : i < xs.length
  · rw [if_pos (by omega)]
    show xs[((i : Int)).toNat]? = _
    rw [Int.toNat_natCast]
  · rw [if_neg (by omega), List.getElem?_eq_none (by omega)]
    rfl
theorem lines : 400 ≤ sizeLine := by decide
abbrev lcOthers : Den := eLc false [6] (iSeq (eV 1)) (.nm 6) (testsD [(tCmp .In (eV 4) (eIx (eV 6) (eV 2)))]) (eV 6)
/-- the others that have the atom -/
theorem others_spec {M : Mem} {n i : Nat} {os : List (List (List D))} {od x a0 a3 : D} {g : Gd} {o5 o6 : Option D} (hs : iSeq (eV 1) [some a0, some od, some (.int i), some a3, some x, o5, o6] M = .ok (osD os, g) M) (hg : gdOk g M = true) (h : Ok n os) (hi : i < n) (hx : Pl 8 x = true) (hf : flatD x = false) :
    lcOthers [some a0, some od, some (.int i), some a3, some x, o5, o6] M = .ok (.lst (osD (keepA x i os))) M := by
  have e := lc_filter (M := M) (vs := [6]) (src := iSeq (eV 1)) (tg := .nm 6) (ts := testsD [(tCmp .In (eV 4) (eIx (eV 6) (eV 2)))]) (elt := eV 6) (g := g) (δ := [some a0, some od, some (.int i), some a3, some x, o5, o6]) (xs := osD os) (f := id)
    (p := fun o => match o with | .lst ls => (match ls[i]? with | some (.lst ys) => hasA x ys | _ => false) | _ => false) hs hg (by unfold osD; rw [List.length_map]; exact Nat.le_trans h.few lines) fun o ho => ?_
  · show eLc false [6] (iSeq (eV 1)) (.nm 6) (testsD [(tCmp .In (eV 4) (eIx (eV 6) (eV 2)))]) (eV 6) [some a0, some od, some (.int i), some a3, some x, o5, o6] M = _
    rw [e]
    unfold osD keepA
    rw [List.map_id, List.filter_map]
    congr 3
    refine List.filter_congr fun o ho => ?_
    have hl := h.len o ho
    have hio : i < o.length := by omega
    simp [lotsD, hio]
  · obtain ⟨l, hl, rfl⟩ := List.mem_map.mp ho
    have hio : i < l.length := by rw [h.len l hl]; exact hi
    refine ⟨_, set_nm, ?_, fun _ => rfl⟩
    have x1 : ixD (lotsD l) (.int i) M = .ok (.lst l[i]) M := by
      have e1 : L2.atI (l.map D.lst) (i : Int) = some (.lst l[i]) := by
        rw [atI_nat, List.getElem?_map, List.getElem?_eq_getElem hio]
        rfl
      show (match L2.atI (l.map D.lst) (i : Int) with | some v => Res.ok v M | none => .bad) = _
      rw [e1]
    have x2 := in_spec (M := M) hx hf (h.pa l hl l[i] (List.getElem_mem hio))
    show ((Res.ok x M).bind fun x M => ((Res.ok (lotsD l) M).bind fun a M => (Res.ok (.int i) M).bind fun b M => ixD a b M).bind fun y M => optB (cmpD .In x y M) M) = _
    simp only [rb_ok, x1, x2, optB_some]
    simp [lotsD, hio]
/-- the loop over a lot's atoms -/
theorem loop_spec {call : List D → Mem → Res D} {M : Mem} {ls : List (List D)} {n i : Nat} {os : List (List (List D))} {od : D} {lead : List D} {g : Gd} (hs : ∀ a b c : Option D, ∀ x, iSeq (eV 1) [some (lotsD ls), some od, some (.int i), some (.lst lead), some x, b, c] M = .ok (osD os, g) M) (hg : gdOk g M = true) (h : Ok n os) (hi : i < n) (hl : lead.length < sizeLine)
    {f : D → Option (List D)} : ∀ (xs : List D), Pa xs → (∀ x ∈ xs, call [lotsD ls, .lst (osD (keepA x i os)), .int ((i + 1 : Nat) : Int), .lst (lead ++ [x])] M = .ok (toD (lead ++ [x]) (f x)) M) → ∀ a b c : Option D,
    (∃ r, firstSome (fun x => (f x).map (x :: ·)) xs = some r ∧ forGo (.nm 4) (sSeq (sSet (.nm 5) (eCall call (withDfl ["lots", "others", "at", "lead"] []) [(false, (eV 0)), (false, lcOthers), (false, (eBin .Add (eV 2) (eC (.int (1))))), (false, (eBin .Add (eV 3) (eLst false [(false, (eV 4))])))] [] [])) (sIf (tCmp .IsNot (eV 5) (eC .non)) (sRet (eV 5)) sNx)) [] xs
      [some (lotsD ls), some od, some (.int i), some (.lst lead), a, b, c] M = .ok (.rt (.lst (lead ++ r))) M) ∨
    (firstSome (fun x => (f x).map (x :: ·)) xs = none ∧ ∃ a' b', forGo (.nm 4) (sSeq (sSet (.nm 5) (eCall call (withDfl ["lots", "others", "at", "lead"] []) [(false, (eV 0)), (false, lcOthers), (false, (eBin .Add (eV 2) (eC (.int (1))))), (false, (eBin .Add (eV 3) (eLst false [(false, (eV 4))])))] [] [])) (sIf (tCmp .IsNot (eV 5) (eC .non)) (sRet (eV 5)) sNx)) [] xs
      [some (lotsD ls), some od, some (.int i), some (.lst lead), a, b, c] M = .ok (.nx [some (lotsD ls), some od, some (.int i), some (.lst lead), a', b', c]) M)
  | [], _, _, a, b, c => .inr ⟨rfl, a, b, for_nil⟩
  | x :: xs, hp, hcall, a, b, c => by
    obtain ⟨px, fx⟩ := hp x (by simp)
    have ih := fun a b => loop_spec (call := call) hs hg h hi hl xs (fun y hy => hp y (List.mem_cons_of_mem _ hy)) (fun y hy => hcall y (List.mem_cons_of_mem _ hy)) a b c
    have ot := others_spec (a0 := lotsD ls) (a3 := .lst lead) (o5 := b) (o6 := c) (hs a b c x) hg h hi px fx
    have ld : addD (.lst lead) (.lst [x]) M = .ok (.lst (lead ++ [x])) M := by
      show guardR (decide (lead.length + [x].length ≤ sizeLine)) (.lst (lead ++ [x])) M = _
      exact g_true' (decide_eq_true (by simp; omega))
    have l1 : eLst false [(false, eV 4)] [some (lotsD ls), some od, some (.int i), some (.lst lead), some x, b, c] M = .ok (.lst [x]) M := rfl
    have hc := hcall x (by simp)
    have cal : eCall call (withDfl ["lots", "others", "at", "lead"] []) [(false, (eV 0)), (false, lcOthers), (false, (eBin .Add (eV 2) (eC (.int (1))))), (false, (eBin .Add (eV 3) (eLst false [(false, (eV 4))])))] [] [] [some (lotsD ls), some od, some (.int i), some (.lst lead), some x, b, c] M = .ok (toD (lead ++ [x]) (f x)) M := by
      rw [call_pos (xs := [lotsD ls, .lst (osD (keepA x i os)), .int ((i + 1 : Nat) : Int), .lst (lead ++ [x])]) (ys := [lotsD ls, .lst (osD (keepA x i os)), .int ((i + 1 : Nat) : Int), .lst (lead ++ [x])]) (M' := M) ?_ rfl, hc]
      · rfl
      · rw [eL_one, show eV 0 [some (lotsD ls), some od, some (.int i), some (.lst lead), some x, b, c] M = .ok (lotsD ls) M from rfl, rb_ok, eL_one, ot, rb_ok, eL_one]
        rw [show eBin .Add (eV 2) (eC (.int 1)) [some (lotsD ls), some od, some (.int i), some (.lst lead), some x, b, c] M = .ok (.int ((i + 1 : Nat) : Int)) M from rfl, rb_ok, eL_one]
        rw [show eBin .Add (eV 3) (eLst false [(false, (eV 4))]) [some (lotsD ls), some od, some (.int i), some (.lst lead), some x, b, c] M = addD (.lst lead) (.lst [x]) M from rfl, ld]
        rfl
    rw [for_cons (δ' := [some (lotsD ls), some od, some (.int i), some (.lst lead), some x, b, c]) rfl]
    cases hf : f x with
    | some r =>
      refine .inl ⟨x :: r, by simp [firstSome, hf], ?_⟩
      have e : toD (lead ++ [x]) (f x) = .lst (lead ++ x :: r) := by rw [hf]; simp [toD]
      rw [e] at cal
      simp [sSeq, sSet, sIf, sRet, tCmp, rb_ok, cal, set_nm, eV, eC, cmpD, isNon, isNonM, optB_some]
    | none =>
      have e : toD (lead ++ [x]) (f x) = .non := by rw [hf]; rfl
      rw [e] at cal
      have fs : firstSome (fun x => (f x).map (x :: ·)) (x :: xs) = firstSome (fun x => (f x).map (x :: ·)) xs := by simp [firstSome, hf]
      rw [fs]
      have st : (sSeq (sSet (.nm 5) (eCall call (withDfl ["lots", "others", "at", "lead"] []) [(false, (eV 0)), (false, lcOthers), (false, (eBin .Add (eV 2) (eC (.int (1))))), (false, (eBin .Add (eV 3) (eLst false [(false, (eV 4))])))] [] [])) (sIf (tCmp .IsNot (eV 5) (eC .non)) (sRet (eV 5)) sNx)) [some (lotsD ls), some od, some (.int i), some (.lst lead), some x, b, c] M = .ok (.nx [some (lotsD ls), some od, some (.int i), some (.lst lead), some x, some .non, c]) M := by
        simp [sSeq, sSet, sIf, sNx, tCmp, rb_ok, cal, set_nm, eV, eC, cmpD, isNon, isNonM, optB_some]
      rw [st, rb_ok]
      exact ih (some x) (some .non)
/-- the others as a value: a list, or an object of the memory -/
structure Oth (M : Mem) (od : D) (os : List (List (List D))) : Prop where
  seq : ∃ g, seqG M od = some (osD os, g) ∧ gdOk g M = true
  nt : (∀ xs, od ≠ .tup xs) ∧ ∀ z, od ≠ .str z
  pd : ∃ h, h ≤ 60 ∧ Pd M h od (.list (pOfs (osD os)))
theorem pl_os {n : Nat} {os : List (List (List D))} (h : Ok n os) : (osD os).all (Pl 10) = true := by
  refine List.all_eq_true.mpr fun o ho => ?_
  obtain ⟨l, hl, rfl⟩ := List.mem_map.mp ho
  show (l.map D.lst).all (Pl 9) = true
  refine List.all_eq_true.mpr fun y hy => ?_
  obtain ⟨z, hz, rfl⟩ := List.mem_map.mp hy
  show z.all (Pl 8) = true
  exact List.all_eq_true.mpr fun x hx => (h.pa l hl z hz x hx).1
theorem oth_lst {M : Mem} {n : Nat} {os : List (List (List D))} (h : Ok n os) : Oth M (.lst (osD os)) os where
  seq := ⟨[], rfl, rfl⟩
  nt := ⟨fun _ => by simp, fun _ => by simp⟩
  pd := ⟨11, by omega, pd_of 11 _ (pl_os h)⟩
theorem oth_ref {M : Mem} {n k : Nat} {os : List (List (List D))} (h : Ok n os) (e : lstAt M k = some (osD os)) : Oth M (.ref k) os where
  seq := ⟨[(k, osD os)], by show (lstAt M k).map _ = _; rw [e]; rfl, gd_one e⟩
  nt := ⟨fun _ => by simp, fun _ => by simp⟩
  pd := ⟨11, by omega, pd_ref e (pl_os h)⟩
theorem iseq_oth {M : Mem} {od : D} {xs : List D} {g : Gd} {δ : Slots} (e : δ[1]? = some (some od)) (n1 : ∀ xs, od ≠ .tup xs) (n2 : ∀ z, od ≠ .str z) (h : seqG M od = some (xs, g)) : iSeq (eV 1) δ M = .ok (xs, g) M := by
  unfold iSeq eV
  rw [e]
  show (match od with
    | .tup xs => Res.ok (xs, []) M
    | .str s => .ok (s.cps.toList.map fun c => .str ⟨#[c]⟩, []) M
    | x => (match seqG M x with
      | some p => .ok p M
      | none => .bad)) = _
  cases od <;> first | exact absurd rfl (n1 _) | exact absurd rfl (n2 _) | (simp only [h])
theorem empty_os {os : List (List (List D))} : (pOfs (osD os)).isEmpty = os.isEmpty := by cases os <;> rfl
theorem eqv_nil {ps : List PyData} : PyData.eqv (.list ps) (.list []) = ps.isEmpty := by cases ps <;> rfl
theorem gone_spec (k : Nat) (M : Mem) (ls : List (List D)) (n : Nat) (hls : ∀ l ∈ ls, Pa l) (hn : ls.length = n) (hz : n < 100) : ∀ (r i : Nat), i + r = n → ∀ (os : List (List (List D))) (od : D) (lead : List D), Ok n os → Oth M od os → lead.length ≤ 100 + i →
    callD cfg (r + 1 + k) "_law_gone_through" [lotsD ls, od, .int i, .lst lead] M = .ok (toD lead (through (ls.drop i) i os)) M
  | 0, i, hi, os, od, lead, ho, ot, hl => by
    have e : (0 + 1 + k) = k + 1 := by omega
    rw [e, c_x_law_gone_through]
    have ei : i = n := by omega
    subst ei
    have dn : ls.drop i = [] := List.drop_eq_nil_of_le (by omega)
    have c1 : cmpD .Eq (.int i) (.int i) M = some true := by
      have e : cmpD .Eq (.int (i : Int)) (.int i) M = eqD (.int i) (.int i) M := rfl
      rw [e, eq_int]; simp
    have l1 : biD .len [lotsD ls] M = .ok (.int i) M := by
      show Res.ok (D.int ((ls.map D.lst).length : Nat)) M = _
      rw [List.length_map, hn]
    obtain ⟨h, hh, pd⟩ := ot.pd
    have c2 : cmpD .NotEq od (.lst []) M = some (!os.isEmpty) := by
      show (eqD od (.lst []) M).map (!·) = _
      rw [eqD_pd (h := h) (h' := 2) pd (pd_of 2 (.lst []) rfl) (by omega) (by omega)]
      show some (!PyData.eqv (.list (pOfs (osD os))) (.list [])) = _
      rw [eqv_nil, empty_os]
    have n1 : eLst false [] [some (lotsD ls), some od, some (.int i), some (.lst lead), none, none, none] M = .ok (.lst []) M := rfl
    rw [dn]
    cases he : os.isEmpty with
    | true => simp [b_x_law_gone_through, startD, sSeq, sIf, sRet, tCmp, eIf, eBi, eL_nil, eL_one, eV, eC, rb_ok, c1, l1, optB_some, n1, c2, he, through, toD, end_rt]
    | false => simp [b_x_law_gone_through, startD, sSeq, sIf, sRet, tCmp, eIf, eBi, eL_nil, eL_one, eV, eC, rb_ok, c1, l1, optB_some, n1, c2, he, through, toD, end_rt]
  | r + 1, i, hi, os, od, lead, ho, ot, hl => by
    have e : (r + 1 + 1 + k) = (r + 1 + k) + 1 := by omega
    rw [e, c_x_law_gone_through]
    have hlt : i < ls.length := by omega
    have dn : ls.drop i = ls[i] :: ls.drop (i + 1) := List.drop_eq_getElem_cons hlt
    have c1 : cmpD .Eq (.int i) (.int ls.length) M = some false := by
      have e : cmpD .Eq (.int (i : Int)) (.int ls.length) M = eqD (.int i) (.int ls.length) M := rfl
      rw [e, eq_int]
      have : ¬ ((i : Int) = (ls.length : Int)) := by omega
      simp [this]
    have l1 : biD .len [lotsD ls] M = .ok (.int ls.length) M := by
      show Res.ok (D.int ((ls.map D.lst).length : Nat)) M = _
      rw [List.length_map]
    obtain ⟨g, sg, hg⟩ := ot.seq
    have hs : ∀ a b c : Option D, ∀ x, iSeq (eV 1) [some (lotsD ls), some od, some (.int i), some (.lst lead), some x, b, c] M = .ok (osD os, g) M := fun a b c x => iseq_oth rfl ot.nt.1 ot.nt.2 sg
    have ix : ixD (lotsD ls) (.int i) M = .ok (.lst ls[i]) M := by
      have e1 : L2.atI (ls.map D.lst) (i : Int) = some (.lst ls[i]) := by
        rw [atI_nat, List.getElem?_map, List.getElem?_eq_getElem hlt]
        rfl
      show (match L2.atI (ls.map D.lst) (i : Int) with | some v => Res.ok v M | none => .bad) = _
      rw [e1]
    have is : iSeq (eIx (eV 0) (eV 2)) [some (lotsD ls), some od, some (.int i), some (.lst lead), none, none, none] M = .ok (ls[i], []) M := by
      simp [iSeq, eIx, eV, rb_ok, ix, seqG]
    have lp := loop_spec (call := callD cfg (r + 1 + k) "_law_gone_through") (ls := ls) (lead := lead) hs hg ho (i := i) (by omega) (by have := lines; omega) (f := fun x => through (ls.drop (i + 1)) (i + 1) (keepA x i os)) ls[i] (hls _ (List.getElem_mem hlt))
      (fun x hx => gone_spec k M ls n hls hn hz r (i + 1) (by omega) (keepA x i os) (.lst (osD (keepA x i os))) (lead ++ [x]) (ho.keep x i) (oth_lst (ho.keep x i)) (by simp; omega)) none none none
    rw [dn]
    show _ = Res.ok (toD lead (firstSome (fun x => (through (ls.drop (i + 1)) (i + 1) (keepA x i os)).map (x :: ·)) ls[i])) M
    rcases lp with ⟨q, h1, h2⟩ | ⟨h1, a', b', h2⟩
    · rw [h1]
      simp [b_x_law_gone_through, startD, sSeq, sIf, sRet, sNx, sFor, tCmp, eBi, eL_nil, eL_one, eV, eC, rb_ok, c1, l1, optB_some, is, h2, toD, end_rt]
    · rw [h1]
      simp [b_x_law_gone_through, startD, sSeq, sIf, sRet, sNx, sFor, tCmp, eBi, eL_nil, eL_one, eV, eC, rb_ok, c1, l1, optB_some, is, h2, toD, end_rt]
end K78
set_option Elab.async false
set_option linter.all false
set_option maxRecDepth 100000
set_option maxHeartbeats 4000000
/-! U78: purses. -/
namespace K78
open PySem Ev
theorem ints_map : ∀ ns : List Int, intsOf (ns.map D.int) = some ns
  | [] => rfl
  | n :: ns => by
    show (intsOf (ns.map D.int)).map (n :: ·) = _
    rw [ints_map ns]
    rfl
theorem cut_map {α β : Type} (f : α → β) (xs : List α) (lo hi : Option Int) : cutD (xs.map f) lo hi = (cutD xs lo hi).map f := by
  unfold cutD
  rw [List.length_map, List.map_take, List.map_drop]
theorem purse_spec (k : Nat) (M : Mem) (ns : List Int) (at_ : Int) : ∃ o, callD cfg (k + 1) "_law_purse" [.frz (ns.map D.int), .int at_] M = .ok (.ref M.length) (M ++ [o]) ∧ Pu (M ++ [o]) M.length 0 := by
  rw [c_x_law_purse]
  have s1 : slD (.frz (ns.map D.int)) (some at_) (some (at_ + 1)) M = .ok (.lst ((cutD ns (some at_) (some (at_ + 1))).map D.int)) M := by
    show Res.ok (D.lst (cutD (ns.map D.int) (some at_) (some (at_ + 1)))) M = _
    rw [cut_map]
  have s2 : biD .sum [.lst ((cutD ns (some at_) (some (at_ + 1))).map D.int)] M = .ok (.int (cutD ns (some at_) (some (at_ + 1))).sum) M := by
    show (match intsOf ((cutD ns (some at_) (some (at_ + 1))).map D.int) with | some is => Res.ok (D.int is.sum) M | none => .bad) = _
    rw [ints_map]
  generalize (cutD ns (some at_) (some (at_ + 1))).sum = seed at s2
  have p1 : powD (.int 10) (.int 18) M = .ok (.int 1000000000000000000) M := by
    show guardR _ _ _ = _
    exact g_true' (by decide +kernel)
  have p2 : powD (.int 10) (.int 60) M = .ok (.int (10 ^ 60)) M := by
    show guardR _ _ _ = _
    exact g_true' (by decide +kernel)
  have p3 : powD (.int (10 ^ 60)) (.int 8) M = .ok (.int ((10 ^ 60) ^ 8)) M := by
    show guardR _ _ _ = _
    exact g_true' (by decide +kernel)
  have mx : biD .max [.int (seed - 1000000000000000000), .int 0] M = .ok (.int (if 0 > seed - 1000000000000000000 then 0 else seed - 1000000000000000000)) M := rfl
  have nz : ((10 ^ 60) ^ 8 : Int) ≠ 0 := by decide +kernel
  have pz : (0 : Int) < (10 ^ 60) ^ 8 := by decide +kernel
  generalize hbig : ((10 ^ 60) ^ 8 : Int) = big at p3 nz pz
  generalize hten : (10 ^ 60 : Int) = ten at p2 p3
  refine ⟨.lst [.int ((if 0 > seed - 1000000000000000000 then 0 else seed - 1000000000000000000).fmod big), .int (seed.fmod 2147483629), .int 0, .int at_], ?_, ⟨(if 0 > seed - 1000000000000000000 then 0 else seed - 1000000000000000000).fmod big, seed.fmod 2147483629, 0, at_, by rw [List.getElem?_append_right (Nat.le_refl _), Nat.sub_self]; rfl, (fmod_lt _ pz).1, Int.le_refl _, Int.le_refl _⟩⟩
  have l4 : (4 : Nat) ≤ sizeLine := by decide
  simp [b_x_law_purse, startD, sSeq, sSet, sRet, eSl, oSome, eLst, eBin, binD, eBi, eL_nil, eL_one, eV, eC, rb_ok, add_int, sub_int, s1, s2, p1, p2, p3, mx, bi_int, mod_int nz, mod_int, set_nm, newL, l4, end_rt]
theorem Pu.app {M os : Mem} {n : Nat} {B : Int} (h : Pu M n B) : Pu (M ++ os) n B := by
  obtain ⟨a, b, c, d, h1, q⟩ := h
  exact ⟨a, b, c, d, by rw [List.getElem?_append_left (List.getElem?_eq_some_iff.mp h1).1]; exact h1, q⟩
theorem purses_go (k : Nat) (ns : List Int) (few : D) (δ : Slots) (h0 : δ = [some (.frz (ns.map D.int)), some few, none]) : ∀ (ats : List Int) (M : Mem), ∃ os : Mem, os.length = ats.length ∧
    lcGo (.nm 2) (testsD []) (eCall (callD cfg (k + 1) "_law_purse") (withDfl ["script", "at"] []) [(false, (eV 0)), (false, (eV 2))] [] []) [] δ (ats.map D.int) M = .ok ((List.range ats.length).map fun j => D.ref (M.length + j)) (M ++ os) ∧ ∀ j < ats.length, Pu (M ++ os) (M.length + j) 0
  | [], M => ⟨[], rfl, by rw [List.append_nil]; rfl, fun j h => absurd h (Nat.not_lt_zero _)⟩
  | a :: ats, M => by
    subst h0
    obtain ⟨o, h1, h2⟩ := purse_spec k M ns a
    obtain ⟨os, g1, g2, g3⟩ := purses_go k ns few _ rfl ats (M ++ [o])
    refine ⟨o :: os, by simp [g1], ?_, fun j hj => ?_⟩
    · have cal : eCall (callD cfg (k + 1) "_law_purse") (withDfl ["script", "at"] []) [(false, (eV 0)), (false, (eV 2))] [] [] [some (.frz (ns.map D.int)), some few, some (.int a)] M = .ok (.ref M.length) (M ++ [o]) := by
        rw [call_pos (xs := [.frz (ns.map D.int), .int a]) (ys := [.frz (ns.map D.int), .int a]) (M' := M) rfl rfl, h1]
        rfl
      have e : lcGo (.nm 2) (testsD []) (eCall (callD cfg (k + 1) "_law_purse") (withDfl ["script", "at"] []) [(false, (eV 0)), (false, (eV 2))] [] []) [] [some (.frz (ns.map D.int)), some few, none] ((a :: ats).map D.int) M =
          (eCall (callD cfg (k + 1) "_law_purse") (withDfl ["script", "at"] []) [(false, (eV 0)), (false, (eV 2))] [] [] [some (.frz (ns.map D.int)), some few, some (.int a)] M).bind fun y M => (lcGo (.nm 2) (testsD []) (eCall (callD cfg (k + 1) "_law_purse") (withDfl ["script", "at"] []) [(false, (eV 0)), (false, (eV 2))] [] []) [] [some (.frz (ns.map D.int)), some few, none] (ats.map D.int) M).bind fun ys M => .ok (y :: ys) M := rfl
      rw [e, cal, rb_ok, g2, rb_ok]
      have r : (List.range (a :: ats).length).map (fun j => D.ref (M.length + j)) = D.ref M.length :: (List.range ats.length).map fun j => D.ref ((M ++ [o]).length + j) := by
        rw [List.length_cons, List.range_succ_eq_map, List.map_cons, List.map_map]
        congr 1
        refine List.map_congr_left fun j _ => ?_
        show D.ref (M.length + (j + 1)) = D.ref ((M ++ [o]).length + j)
        congr 1
        simp
        omega
      rw [r, List.append_assoc]
      rfl
    · have ea : M ++ o :: os = (M ++ [o]) ++ os := by simp
      rw [ea]
      cases j with
      | zero => exact h2.app
      | succ j =>
        have := g3 j (by simpa using hj)
        rw [List.length_append] at this
        have e : M.length + (j + 1) = M.length + [o].length + j := by simp; omega
        rw [e]
        exact this
theorem purses_spec (k : Nat) (ns : List Int) : ∃ (cnt : Nat) (os : Mem), 1 ≤ cnt ∧ cnt ≤ 3 ∧ os.length = cnt ∧ callD cfg (k + 2) "_law_purses" [.frz (ns.map D.int), .int 3] [] = .ok (.lst ((List.range cnt).map D.ref)) os ∧ ∀ j < cnt, Pu os j 0 := by
  rw [c_x_law_purses]
  have l1 : ∀ M : Mem, biD .len [.frz (ns.map D.int)] M = .ok (.int ns.length) M := fun M => by
    show Res.ok (D.int ((ns.map D.int).length : Nat)) M = _
    rw [List.length_map]
  obtain ⟨c, hc1, hc2, hc⟩ : ∃ c : Nat, 1 ≤ c ∧ c ≤ 3 ∧ (if (if ((ns.length : Nat) : Int) < 3 then ((ns.length : Nat) : Int) else 3) > 1 then (if ((ns.length : Nat) : Int) < 3 then ((ns.length : Nat) : Int) else 3) else 1) = (c : Int) := by
    refine ⟨if (if ns.length < 3 then ns.length else 3) > 1 then (if ns.length < 3 then ns.length else 3) else 1, ?_, ?_, ?_⟩
    · split <;> split <;> omega
    · split <;> split <;> omega
    · split <;> split <;> split <;> split <;> omega
  have mn : ∀ M : Mem, biD .min [.int 3, .int ns.length] M = .ok (.int (if ((ns.length : Nat) : Int) < 3 then ((ns.length : Nat) : Int) else 3)) M := fun M => rfl
  have mx : ∀ (M : Mem) (x : Int), biD .max [.int 1, .int x] M = .ok (.int (if x > 1 then x else 1)) M := fun M x => rfl
  have ra : rangeD 0 c = (((List.range c).map fun j => ((j : Nat) : Int)).map D.int) := by
    unfold rangeD
    rw [List.map_map]
    refine List.map_congr_left fun j _ => ?_
    show D.int (0 + (j : Int)) = D.int j
    rw [Int.zero_add]
  obtain ⟨os, g1, g2, g3⟩ := purses_go k ns (.int 3) _ rfl ((List.range c).map fun j => ((j : Nat) : Int)) []
  simp only [List.length_map, List.length_range, List.nil_append, List.length_nil, Nat.zero_add] at g1 g2 g3
  refine ⟨c, os, hc1, hc2, g1, ?_, g3⟩
  have in62c : in62 (c : Int) = true := by
    have : c = 1 ∨ c = 2 ∨ c = 3 := by omega
    rcases this with rfl | rfl | rfl <;> decide
  have src : iRange1 (eBi .max [(false, (eC (.int (1)))), (false, (eBi .min [(false, (eV 1)), (false, (eBi .len [(false, (eV 0))]))]))]) [some (.frz (ns.map D.int)), some (.int 3), none] [] = .ok (((List.range c).map fun j => ((j : Nat) : Int)).map D.int, []) [] := by
    have e0 : eBi .min [(false, (eV 1)), (false, (eBi .len [(false, (eV 0))]))] [some (.frz (ns.map D.int)), some (.int 3), none] [] = .ok (.int (if ((ns.length : Nat) : Int) < 3 then ((ns.length : Nat) : Int) else 3)) [] := by
      have e2 : eBi .len [(false, (eV 0))] [some (.frz (ns.map D.int)), some (.int 3), none] [] = biD .len [.frz (ns.map D.int)] [] := rfl
      have e3 : eBi .min [(false, (eV 1)), (false, (eBi .len [(false, (eV 0))]))] [some (.frz (ns.map D.int)), some (.int 3), none] [] = (((eBi .len [(false, (eV 0))] [some (.frz (ns.map D.int)), some (.int 3), none] []).bind fun x M => Res.ok [x] M).bind fun xs M => Res.ok (D.int 3 :: xs) M).bind fun xs M => biD .min xs M := rfl
      rw [e3, e2, l1]
      exact mn []
    have e1 : eBi .max [(false, (eC (.int (1)))), (false, (eBi .min [(false, (eV 1)), (false, (eBi .len [(false, (eV 0))]))]))] [some (.frz (ns.map D.int)), some (.int 3), none] [] = .ok (.int c) [] := by
      have e3 : eBi .max [(false, (eC (.int (1)))), (false, (eBi .min [(false, (eV 1)), (false, (eBi .len [(false, (eV 0))]))]))] [some (.frz (ns.map D.int)), some (.int 3), none] [] = (((eBi .min [(false, (eV 1)), (false, (eBi .len [(false, (eV 0))]))] [some (.frz (ns.map D.int)), some (.int 3), none] []).bind fun x M => Res.ok [x] M).bind fun xs M => Res.ok (D.int 1 :: xs) M).bind fun xs M => biD .max xs M := rfl
      rw [e3, e0]
      show biD .max [.int 1, .int _] [] = _
      rw [mx, hc]
    show ((eBi .max [(false, (eC (.int (1)))), (false, (eBi .min [(false, (eV 1)), (false, (eBi .len [(false, (eV 0))]))]))] [some (.frz (ns.map D.int)), some (.int 3), none] []).bind fun x M => match x with
      | .int j => if in62 j then Res.ok (rangeD 0 j.toNat, []) M else .bad
      | _ => .bad) = _
    rw [e1, rb_ok]
    show (if in62 (c : Int) then Res.ok (rangeD 0 (c : Int).toNat, []) [] else .bad) = _
    rw [if_pos in62c, Int.toNat_natCast, ra]
  have lc : eLc false [2] (iRange1 (eBi .max [(false, (eC (.int (1)))), (false, (eBi .min [(false, (eV 1)), (false, (eBi .len [(false, (eV 0))]))]))])) (.nm 2) (testsD []) (eCall (callD cfg (k + 1) "_law_purse") (withDfl ["script", "at"] []) [(false, (eV 0)), (false, (eV 2))] [] []) [some (.frz (ns.map D.int)), some (.int 3), none] [] = .ok (.lst ((List.range c).map D.ref)) os := by
    show (Res.bind _ _) = _
    rw [src, rb_ok]
    show ((noErr (lcGo (.nm 2) (testsD []) (eCall (callD cfg (k + 1) "_law_purse") (withDfl ["script", "at"] []) [(false, (eV 0)), (false, (eV 2))] [] []) [] [some (.frz (ns.map D.int)), some (.int 3), none] (((List.range c).map fun j => ((j : Nat) : Int)).map D.int) [])).bind fun ys M => if ys.length ≤ sizeLine then newL false ys M else .bad) = _
    rw [g2]
    show (if ((List.range c).map D.ref).length ≤ sizeLine then newL false ((List.range c).map D.ref) os else .bad) = _
    rw [if_pos (by rw [List.length_map, List.length_range]; have := lines; omega)]
    rfl
  simp [b_x_law_purses, startD, sRet, rb_ok, lc, end_rt]
end K78
set_option Elab.async false
set_option linter.all false
set_option maxRecDepth 100000
set_option maxHeartbeats 4000000
/-! V78: _law_same of equal data. -/
namespace K78
open PySem Ev
/-- told and due hold the same plain data: told may be an object of the memory -/
theorem isi_list_dict {xs : List D} {M : Mem} : isiD M (.lst xs) (.ty "dict") = some false := rfl
theorem all_lst_true {M : Mem} {xs : List D} (h : ∀ x ∈ xs, x = D.bl true) : biD .all [.lst xs] M = .ok (.bl true) M := all_true h
/-- ints -/
theorem same_int (k : Nat) (M : Mem) (i : Int) : callD cfg (k + 1) "_law_same" [.int i, .int i] M = .ok (.bl true) M := by
  rw [c_x_law_same]
  have t1 : isiD M (.int i) (.ty "dict") = some false := rfl
  have t2 : isiD M (.int i) (.tup [.ty "list", .ty "tuple"]) = some false := rfl
  have t3 : isiD M (.int i) (.tup [.ty "list", .ty "tuple", .ty "dict"]) = some false := rfl
  have t4 : isiD M (.int i) (.ty "int") = some true := rfl
  have t5 : isiD M (.int i) (.ty "str") = some false := rfl
  have t6 : isiD M (.int i) (.ty "bool") = some false := rfl
  have e1 : cmpD .Eq (.bl true) (.bl true) M = some true := rfl
  have e2 : cmpD .Eq (.bl false) (.bl false) M = some true := rfl
  have e3 : cmpD .Eq (.int i) (.int i) M = some true := by
    have e : cmpD .Eq (.int i) (.int i) M = eqD (.int i) (.int i) M := rfl
    rw [e, eq_int]; simp
  have n1 : cmpD .Is (.int i) .non M = some false := rfl
  have u2 : (2 : Nat) ≤ sizeLine := by decide
  have u3 : (3 : Nat) ≤ sizeLine := by decide
  simp [b_x_law_same, startD, sSeq, sIf, sSet, sRet, sNx, tD, eBi, eTup, eL_nil, eL_one, eV, eC, eNot, eBool, eAnd, eCmp, rb_ok, bi_isi t1, bi_isi t2, bi_isi t3, bi_isi t4, bi_isi t5, bi_isi t6, truthD, optB_some, optR_some, guardR, u2, u3, e1, e2, e3, n1, set_nm, end_rt]
theorem same_non (k : Nat) (M : Mem) : callD cfg (k + 1) "_law_same" [.non, .non] M = .ok (.bl true) M := by kernel_rfl
/-- lists: told a list or an object, due a list -/
theorem same_lst (k : Nat) (M : Mem) (told : D) (xs ys : List D) (g : Gd) (hk : kindD M told = some "list") (hs : seqG M told = some (xs, g)) (hg : gdOk g M = true) (l1 : biD .len [told] M = .ok (.int xs.length) M) (nt : ∀ zs, told ≠ .tup zs) (hl : xs.length = ys.length) (hz : xs.length ≤ sizeLine)
    (hp : ∀ a b, D.tup [a, b] ∈ zipD xs ys → callD cfg k "_law_same" [a, b] M = .ok (.bl true) M) : callD cfg (k + 1) "_law_same" [told, .lst ys] M = .ok (.bl true) M := by
  rw [c_x_law_same]
  have t1 : isiD M (.lst ys) (.ty "dict") = some false := rfl
  have t2 : isiD M (.lst ys) (.tup [.ty "list", .ty "tuple"]) = some true := rfl
  have t3 : isiD M (.lst ys) (.ty "list") = some true := rfl
  have t4 : isiD M (.lst ys) (.ty "tuple") = some false := rfl
  have t5 : isiD M told (.ty "list") = some true := by unfold isiD; rw [hk]; rfl
  have t6 : isiD M told (.ty "tuple") = some false := by unfold isiD; rw [hk]; rfl
  have e1 : cmpD .Eq (.bl true) (.bl true) M = some true := rfl
  have e2 : cmpD .Eq (.bl false) (.bl false) M = some true := rfl
  have l2 : biD .len [.lst ys] M = .ok (.int ys.length) M := rfl
  have e3 : cmpD .Eq (.int xs.length) (.int ys.length) M = some true := by
    have e : cmpD .Eq (.int (xs.length : Int)) (.int ys.length) M = eqD (.int xs.length) (.int ys.length) M := rfl
    rw [e, eq_int, hl]; simp
  have u2 : (2 : Nat) ≤ sizeLine := by decide
  have mem : ∀ p ∈ zipD xs ys, ∃ a b, p = D.tup [a, b] := fun p h => by
    obtain ⟨i, hi, e⟩ := List.mem_iff_getElem.mp h
    obtain ⟨a, b, _, _, q⟩ := zipD_get (xs := xs) (ys := ys) (i := i) (d := p) (by rw [List.getElem?_eq_getElem hi, e])
    exact ⟨a, b, q⟩
  have src : iZip (eV 0) (eV 1) [some told, some (.lst ys), some (.bl true), none, none, none] M = .ok (zipD xs ys, g ++ []) M := by
    show (match told, D.lst ys with
      | .tup xs, .tup ys => Res.ok (zipD xs ys, []) M
      | x, y => (match seqG M x, seqG M y with
        | some (xs, g), some (ys, g') => .ok (zipD xs ys, g ++ g') M
        | _, _ => .bad)) = _
    have : seqG M (.lst ys) = some (ys, []) := rfl
    cases told <;> first | exact absurd rfl (nt _) | (simp only [hs, this])
  have lc : eLc false [4, 5] (iZip (eV 0) (eV 1)) (.tp [.nm 4, .nm 5]) (testsD []) (eCall (callD cfg k "_law_same") (withDfl ["told", "due"] []) [(false, (eV 4)), (false, (eV 5))] [] []) [some told, some (.lst ys), some (.bl true), none, none, none] M = .ok (.lst ((zipD xs ys).map fun _ => .bl true)) M := by
    refine lc_map src (by rw [List.append_nil]; exact hg) (by rw [zipD_len]; omega) fun p hpm => ?_
    obtain ⟨a, b, rfl⟩ := mem p hpm
    refine ⟨[some told, some (.lst ys), some (.bl true), none, some a, some b], rfl, ?_⟩
    rw [call_pos (xs := [a, b]) (ys := [a, b]) (M' := M) rfl rfl, hp a b hpm]
    rfl
  simp [b_x_law_same, startD, sSeq, sIf, sSet, sRet, sNx, tD, eBi, eTup, eL_nil, eL_one, eV, eC, eBool, eAnd, eCmp, rb_ok, bi_isi t1, bi_isi t2, bi_isi t3, bi_isi t4, bi_isi t5, bi_isi t6, truthD, optB_some, optR_some, guardR, u2, e1, e2, l1, l2, e3, set_nm, lc, all_map_true, end_rt]
theorem same_tup (k : Nat) (M : Mem) (xs ys : List D) (hl : xs.length = ys.length) (hz : xs.length ≤ sizeLine)
    (hp : ∀ a b, D.tup [a, b] ∈ zipD xs ys → callD cfg k "_law_same" [a, b] M = .ok (.bl true) M) : callD cfg (k + 1) "_law_same" [.tup xs, .tup ys] M = .ok (.bl true) M := by
  rw [c_x_law_same]
  have t1 : isiD M (.tup ys) (.ty "dict") = some false := rfl
  have t2 : isiD M (.tup ys) (.tup [.ty "list", .ty "tuple"]) = some true := rfl
  have t3 : ∀ zs, isiD M (.tup zs) (.ty "list") = some false := fun _ => rfl
  have t4 : ∀ zs, isiD M (.tup zs) (.ty "tuple") = some true := fun _ => rfl
  have e1 : cmpD .Eq (.bl true) (.bl true) M = some true := rfl
  have e2 : cmpD .Eq (.bl false) (.bl false) M = some true := rfl
  have l2 : ∀ zs : List D, biD .len [.tup zs] M = .ok (.int zs.length) M := fun _ => rfl
  have e3 : cmpD .Eq (.int xs.length) (.int ys.length) M = some true := by
    have e : cmpD .Eq (.int (xs.length : Int)) (.int ys.length) M = eqD (.int xs.length) (.int ys.length) M := rfl
    rw [e, eq_int, hl]; simp
  have u2 : (2 : Nat) ≤ sizeLine := by decide
  have mem : ∀ p ∈ zipD xs ys, ∃ a b, p = D.tup [a, b] := fun p h => by
    obtain ⟨i, hi, e⟩ := List.mem_iff_getElem.mp h
    obtain ⟨a, b, _, _, q⟩ := zipD_get (xs := xs) (ys := ys) (i := i) (d := p) (by rw [List.getElem?_eq_getElem hi, e])
    exact ⟨a, b, q⟩
  have lc : eLc false [4, 5] (iZip (eV 0) (eV 1)) (.tp [.nm 4, .nm 5]) (testsD []) (eCall (callD cfg k "_law_same") (withDfl ["told", "due"] []) [(false, (eV 4)), (false, (eV 5))] [] []) [some (.tup xs), some (.tup ys), some (.bl true), none, none, none] M = .ok (.lst ((zipD xs ys).map fun _ => .bl true)) M := by
    refine lc_map (g := []) rfl gd_nil (by rw [zipD_len]; omega) fun p hpm => ?_
    obtain ⟨a, b, rfl⟩ := mem p hpm
    refine ⟨[some (.tup xs), some (.tup ys), some (.bl true), none, some a, some b], rfl, ?_⟩
    rw [call_pos (xs := [a, b]) (ys := [a, b]) (M' := M) rfl rfl, hp a b hpm]
    rfl
  simp [b_x_law_same, startD, sSeq, sIf, sSet, sRet, sNx, tD, eBi, eTup, eL_nil, eL_one, eV, eC, eBool, eAnd, eCmp, rb_ok, bi_isi t1, bi_isi t2, bi_isi (t3 _), bi_isi (t4 _), truthD, optB_some, optR_some, guardR, u2, e1, e2, l2, e3, set_nm, lc, all_map_true, end_rt]
/-- an atom, a path of atoms -/
theorem same_bits (k : Nat) (M : Mem) (bs : List D) (h : Bits bs) (hz : bs.length ≤ sizeLine) : callD cfg (k + 2) "_law_same" [.tup bs, .tup bs] M = .ok (.bl true) M :=
  same_tup (k + 1) M bs bs rfl hz fun a b hm => by
    obtain ⟨i, hi, e⟩ := List.mem_iff_getElem.mp hm
    obtain ⟨a', b', h1, h2, q⟩ := zipD_get (xs := bs) (ys := bs) (i := i) (d := .tup [a, b]) (by rw [List.getElem?_eq_getElem hi, e])
    cases q
    rw [h1] at h2
    cases h2
    rcases h a (List.mem_of_getElem? h1) with rfl | rfl <;> exact same_int k M _
/-- a way through: told as an object or a list, due a list -/
theorem same_path (k : Nat) (M : Mem) (told : D) (ps : List D) (g : Gd) (hk : kindD M told = some "list") (hs : seqG M told = some (ps, g)) (hg : gdOk g M = true) (l1 : biD .len [told] M = .ok (.int ps.length) M) (nt : ∀ zs, told ≠ .tup zs) (hz : ps.length ≤ sizeLine)
    (hb : ∀ x ∈ ps, ∃ bs, x = .tup bs ∧ Bits bs ∧ bs.length ≤ sizeLine) : callD cfg (k + 3) "_law_same" [told, .lst ps] M = .ok (.bl true) M :=
  same_lst (k + 2) M told ps ps g hk hs hg l1 nt rfl hz fun a b hm => by
    obtain ⟨i, hi, e⟩ := List.mem_iff_getElem.mp hm
    obtain ⟨a', b', h1, h2, q⟩ := zipD_get (xs := ps) (ys := ps) (i := i) (d := .tup [a, b]) (by rw [List.getElem?_eq_getElem hi, e])
    cases q
    rw [h1] at h2
    cases h2
    obtain ⟨bs, rfl, h3, h4⟩ := hb a (List.mem_of_getElem? h1)
    exact same_bits k M bs h3 h4
end K78
set_option Elab.async false
set_option linter.all false
set_option maxRecDepth 100000
set_option maxHeartbeats 4000000
/-! W78: outside_from with its memo. -/
namespace K78
open PySem Ev
def idsD (ids : List Nat) : List D := ids.map fun (j : Nat) => D.int (j : Int)
def sel (os : List (List (List D))) (ids : List Nat) : List (List (List D)) := ids.filterMap fun j => os[j]?
def key (i : Nat) (ids : List Nat) : D := .tup [.int i, .tup (idsD ids)]
/-- the others, by number, that have x at place i -/
def lateOf (os : List (List (List D))) (x : D) (i : Nat) (ids : List Nat) : List Nat := ids.filter fun j => match os[j]? with
  | some o => hasA x (o.getD i [])
  | none => false
theorem sel_filter (os : List (List (List D))) (p : List (List D) → Bool) : ∀ ids : List Nat, (sel os ids).filter p = sel os (ids.filter fun j => match os[j]? with
  | some o => p o
  | none => false)
  | [] => rfl
  | j :: ids => by
    have ih := sel_filter os p ids
    unfold sel at ih ⊢
    cases h : os[j]? with
    | none => simp [List.filterMap_cons, h, List.filter_cons, ih]
    | some o =>
      cases hp : p o with
      | true => simp [List.filterMap_cons, h, List.filter_cons, hp, ih]
      | false => simp [List.filterMap_cons, h, List.filter_cons, hp, ih]
theorem sel_late (os : List (List (List D))) (x : D) (i : Nat) (ids : List Nat) : keepA x i (sel os ids) = sel os (lateOf os x i ids) := sel_filter os _ ids
theorem idsD_inj : ∀ {a b : List Nat}, idsD a = idsD b → a = b
  | [], [], _ => rfl
  | [], _ :: _, h => by cases h
  | _ :: _, [], h => by cases h
  | x :: a, y :: b, h => by
    have h : D.int (x : Int) :: idsD a = D.int (y : Int) :: idsD b := h
    injection h with h1 h2
    injection h1 with h1
    rw [idsD_inj h2, Int.ofNat_inj.mp h1]
theorem key_inj {i j : Nat} {a b : List Nat} (h : key i a = key j b) : i = j ∧ a = b := by
  unfold key at h
  injection h with h
  injection h with h1 h2
  injection h2 with h2
  injection h1 with h1
  injection h2 with h2
  exact ⟨Int.ofNat_inj.mp h1, idsD_inj h2⟩
theorem key_ok (i : Nat) (ids : List Nat) : inD.keyOk (key i ids) = true := by
  show ([D.int i, .tup (idsD ids)] : List D).all (inD.keyOkN 7) = true
  simp only [List.all_cons, List.all_nil, Bool.and_true]
  show (true && (idsD ids).all (inD.keyOkN 6)) = true
  rw [Bool.true_and]
  exact List.all_eq_true.mpr fun x hx => by
    obtain ⟨j, _, rfl⟩ := List.mem_map.mp hx
    rfl
/-! ### the memo -/
theorem get_put {kvs : List (D × D)} {k v : D} : dctGet (dctPut kvs k v) k = some v := by
  induction kvs with
  | nil => unfold dctGet dctPut; simp [D.same_refl]
  | cons kv r ih =>
    unfold dctPut
    by_cases h : D.same kv.1 k = true
    · rw [if_pos h]
      unfold dctGet
      simp [h]
    · rw [if_neg h]
      unfold dctGet at ih ⊢
      rw [List.find?_cons]
      have h' : D.same kv.1 k = false := by simpa using h
      rw [h']
      exact ih
theorem put_mem {kvs : List (D × D)} {k v : D} {p : D × D} (h : p ∈ dctPut kvs k v) : p ∈ kvs ∨ p = (k, v) := by
  induction kvs with
  | nil => exact .inr (by simpa [dctPut] using h)
  | cons kv r ih =>
    unfold dctPut at h
    by_cases hs : D.same kv.1 k = true
    · rw [if_pos hs] at h
      rcases List.mem_cons.mp h with e | e
      · exact .inr (by rw [e, D.same_eq hs])
      · exact .inl (List.mem_cons_of_mem _ e)
    · rw [if_neg hs] at h
      rcases List.mem_cons.mp h with e | e
      · exact .inl (by rw [e]; simp)
      · exact (ih e).imp (List.mem_cons_of_mem _) id
theorem put_keys {kvs : List (D × D)} {k v : D} (nd : (kvs.map (·.1)).Nodup) : ((dctPut kvs k v).map (·.1)).Nodup := by
  induction kvs with
  | nil => simp [dctPut]
  | cons kv r ih =>
    obtain ⟨n1, n2⟩ := List.nodup_cons.mp (show (kv.1 :: r.map (·.1)).Nodup from nd)
    unfold dctPut
    by_cases hs : D.same kv.1 k = true
    · rw [if_pos hs]
      exact List.nodup_cons.mpr ⟨n1, n2⟩
    · rw [if_neg hs]
      refine List.nodup_cons.mpr ⟨fun z => ?_, ih n2⟩
      obtain ⟨p, hp, e⟩ := List.mem_map.mp z
      rcases put_mem hp with q | q
      · have e' : p.1 = kv.1 := e
        exact n1 (e' ▸ List.mem_map_of_mem q)
      · rw [q] at e
        have e' : k = kv.1 := e
        rw [← e', D.same_refl] at hs
        exact hs rfl
theorem get_mem {kvs : List (D × D)} {k v : D} (h : dctGet kvs k = some v) : (k, v) ∈ kvs := by
  unfold dctGet at h
  obtain ⟨p, hp, rfl⟩ := Option.map_eq_some_iff.mp h
  have h1 := List.mem_of_find?_eq_some hp
  have h2 := List.find?_some hp
  have e : p.1 = k := D.same_eq h2
  rw [← e]
  exact h1
theorem any_get {kvs : List (D × D)} {k : D} (h : (kvs.any fun kv => D.same kv.1 k) = true) : ∃ v, dctGet kvs k = some v := by
  unfold dctGet
  cases hf : kvs.find? fun kv => D.same kv.1 k with
  | some p => exact ⟨p.2, rfl⟩
  | none =>
    obtain ⟨p, hp, hs⟩ := List.any_eq_true.mp h
    exact absurd hs (by simpa using List.find?_eq_none.mp hf p hp)
/-! ### how many keys there may be -/
theorem nodup_lt : ∀ (n : Nat) (l : List Nat), l.Nodup → (∀ x ∈ l, x < n) → l.length ≤ n
  | 0, [], _, _ => Nat.le_refl _
  | 0, x :: _, _, h => absurd (h x (by simp)) (Nat.not_lt_zero _)
  | n + 1, l, nd, h => by
    have ih := nodup_lt n (l.erase n) (nd.erase n) fun x hx => by
      have h1 := h x (List.mem_of_mem_erase hx)
      have h2 : x ≠ n := fun e => by
        rw [e] at hx
        exact (List.Nodup.not_mem_erase nd) hx
      omega
    have := List.length_erase (a := n) (l := l)
    split at this <;> omega
/-- ids as a number, over the first m -/
def code : Nat → List Nat → Nat
  | 0, _ => 0
  | m + 1, ids => 2 * code m ids + if m ∈ ids then 1 else 0
theorem code_lt : ∀ (m : Nat) (ids : List Nat), code m ids < 2 ^ m
  | 0, _ => Nat.one_pos
  | m + 1, ids => by
    have ih := code_lt m ids
    unfold code
    rw [Nat.pow_succ]
    split <;> omega
theorem code_mem : ∀ (m : Nat) (a b : List Nat), code m a = code m b → ∀ j < m, (j ∈ a ↔ j ∈ b)
  | 0, _, _, _, j, h => absurd h (Nat.not_lt_zero _)
  | m + 1, a, b, e, j, h => by
    unfold code at e
    have hh : code m a = code m b ∧ (m ∈ a ↔ m ∈ b) := by
      by_cases h1 : m ∈ a
      · by_cases h2 : m ∈ b
        · rw [if_pos h1, if_pos h2] at e; exact ⟨by omega, fun _ => h2, fun _ => h1⟩
        · rw [if_pos h1, if_neg h2] at e; omega
      · by_cases h2 : m ∈ b
        · rw [if_neg h1, if_pos h2] at e; omega
        · rw [if_neg h1, if_neg h2] at e; exact ⟨by omega, fun z => absurd z h1, fun z => absurd z h2⟩
    by_cases hj : j = m
    · rw [hj]; exact hh.2
    · exact code_mem m a b hh.1 j (by omega)
theorem sub_filt {l s : List Nat} (h : s.Sublist l) : l.Nodup → s = l.filter fun j => decide (j ∈ s) := by
  induction h with
  | slnil => intro _; rfl
  | @cons s l a h ih =>
    intro nd
    obtain ⟨n1, n2⟩ := List.nodup_cons.mp nd
    have na : a ∉ s := fun z => n1 (h.subset z)
    rw [List.filter_cons, if_neg (by simpa using na)]
    exact ih n2
  | @cons_cons s l a h ih =>
    intro nd
    obtain ⟨n1, n2⟩ := List.nodup_cons.mp nd
    rw [List.filter_cons, if_pos (by simp)]
    congr 1
    have e := ih n2
    conv => lhs; rw [e]
    refine List.filter_congr fun x hx => ?_
    have hne : x ≠ a := fun z => n1 (z ▸ hx)
    simp [hne]
theorem sub_filter {m : Nat} {ids : List Nat} (h : ids.Sublist (List.range m)) : ids = (List.range m).filter fun j => decide (j ∈ ids) := sub_filt h List.nodup_range
theorem code_inj {m : Nat} {a b : List Nat} (ha : a.Sublist (List.range m)) (hb : b.Sublist (List.range m)) (e : code m a = code m b) : a = b := by
  rw [sub_filter ha, sub_filter hb]
  refine List.filter_congr fun j hj => ?_
  have := code_mem m a b e j (List.mem_range.mp hj)
  exact decide_eq_decide.mpr this
/-- keys of the memo: few -/
theorem keys_few {m n : Nat} : ∀ {kvs : List (D × D)}, (kvs.map (·.1)).Nodup → (∀ kv ∈ kvs, ∃ i ids, kv.1 = key i ids ∧ i ≤ n ∧ ids.Sublist (List.range m)) → kvs.length ≤ (n + 1) * 2 ^ m := by
  intro kvs nd h
  -- each key's number
  have ex : ∀ kvs : List (D × D), (kvs.map (·.1)).Nodup → (∀ kv ∈ kvs, ∃ i ids, kv.1 = key i ids ∧ i ≤ n ∧ ids.Sublist (List.range m)) →
      ∃ cs : List Nat, cs.length = kvs.length ∧ cs.Nodup ∧ (∀ c ∈ cs, c < (n + 1) * 2 ^ m) ∧ ∀ c ∈ cs, ∃ kv ∈ kvs, ∃ i ids, kv.1 = key i ids ∧ ids.Sublist (List.range m) ∧ c = i * 2 ^ m + code m ids := by
    intro kvs
    induction kvs with
    | nil => intro _ _; exact ⟨[], rfl, List.nodup_nil, fun c h => (by cases h), fun c h => (by cases h)⟩
    | cons kv r ih =>
      intro nd h
      obtain ⟨n1, n2⟩ := List.nodup_cons.mp (show (kv.1 :: r.map (·.1)).Nodup from nd)
      obtain ⟨cs, e1, e2, e3, e4⟩ := ih n2 fun q hq => h q (List.mem_cons_of_mem _ hq)
      obtain ⟨i, ids, k1, k2, k3⟩ := h kv (by simp)
      have cl := code_lt m ids
      refine ⟨(i * 2 ^ m + code m ids) :: cs, by simp [e1], List.nodup_cons.mpr ⟨fun z => ?_, e2⟩, fun c hc => ?_, fun c hc => ?_⟩
      · obtain ⟨q, hq, j, ids', q1, q2, q3⟩ := e4 _ z
        have cl' := code_lt m ids'
        have hij : i = j := by
          have a1 : (i * 2 ^ m + code m ids) / 2 ^ m = i := by
            rw [Nat.mul_comm, Nat.mul_add_div (Nat.two_pow_pos m), Nat.div_eq_of_lt cl, Nat.add_zero]
          have a2 : (j * 2 ^ m + code m ids') / 2 ^ m = j := by
            rw [Nat.mul_comm, Nat.mul_add_div (Nat.two_pow_pos m), Nat.div_eq_of_lt cl', Nat.add_zero]
          rw [← a1, q3, a2]
        subst hij
        have hc : code m ids = code m ids' := by omega
        have := code_inj k3 q2 hc
        subst this
        exact n1 (by rw [k1, ← q1]; exact List.mem_map_of_mem hq)
      · rcases List.mem_cons.mp hc with e | e
        · rw [e, Nat.add_mul]
          have : i * 2 ^ m ≤ n * 2 ^ m := Nat.mul_le_mul_right _ k2
          omega
        · exact e3 c e
      · rcases List.mem_cons.mp hc with e | e
        · exact ⟨kv, by simp, i, ids, k1, k3, e⟩
        · obtain ⟨q, hq, z⟩ := e4 c e
          exact ⟨q, List.mem_cons_of_mem _ hq, z⟩
  obtain ⟨cs, e1, e2, e3, _⟩ := ex kvs nd h
  rw [← e1]
  exact nodup_lt _ cs e2 e3
/-! ### what stands -/
/-- v reads as the way r -/
def Shows (M : Mem) (v : D) : Option (List D) → Prop
  | none => v = .non
  | some p => seqOf M v = some p
/-- the memory grows, only the object kn changes -/
structure Grow (M M' : Mem) (kn : Nat) : Prop where
  len : M.length ≤ M'.length
  old : ∀ j, j < M.length → j ≠ kn → M'[j]? = M[j]?
theorem Grow.refl (M : Mem) (kn : Nat) : Grow M M kn := ⟨Nat.le_refl _, fun _ _ _ => rfl⟩
theorem Grow.trans {M M1 M2 : Mem} {kn : Nat} (a : Grow M M1 kn) (b : Grow M1 M2 kn) : Grow M M2 kn := ⟨Nat.le_trans a.len b.len, fun j h n => (b.old j (Nat.lt_of_lt_of_le h a.len) n).trans (a.old j h n)⟩
theorem Grow.set {M : Mem} {kn : Nat} {o : Ob} : Grow M (M.set kn o) kn := ⟨by simp, fun j _ n => List.getElem?_set_ne (Ne.symm n)⟩
theorem Grow.app {M : Mem} {kn : Nat} {os : Mem} : Grow M (M ++ os) kn := ⟨by simp, fun j h _ => List.getElem?_append_left h⟩
theorem Grow.seq {M M' : Mem} {kn : Nat} (g : Grow M M' kn) {kvs : List (D × D)} (hk : M[kn]? = some (.dct kvs)) {v : D} {xs : List D} (h : seqOf M v = some xs) : seqOf M' v = some xs := by
  cases v with
  | lst ys => exact h
  | ref j =>
    have e := lstAt_some (show lstAt M j = some xs from h)
    have hj : j < M.length := (List.getElem?_eq_some_iff.mp e).1
    have ne : j ≠ kn := fun z => by rw [z, hk] at e; cases e
    exact lstAt_of ((g.old j hj ne).trans e)
  | _ => cases h
theorem Grow.shows {M M' : Mem} {kn : Nat} (g : Grow M M' kn) {kvs : List (D × D)} (hk : M[kn]? = some (.dct kvs)) {v : D} : ∀ {r : Option (List D)}, Shows M v r → Shows M' v r
  | none, h => h
  | some p, h => g.seq hk h
/-- the memo is right -/
structure Memo (ls : List (List D)) (os : List (List (List D))) (n : Nat) (M : Mem) (kn : Nat) (kvs : List (D × D)) : Prop where
  at_ : M[kn]? = some (.dct kvs)
  nd : (kvs.map (·.1)).Nodup
  ok : ∀ kv ∈ kvs, ∃ i ids, kv.1 = key i ids ∧ i ≤ n ∧ ids.Sublist (List.range os.length) ∧ Shows M kv.2 (through (ls.drop i) i (sel os ids))
theorem Memo.few {ls : List (List D)} {os : List (List (List D))} {n kn : Nat} {M : Mem} {kvs : List (D × D)} (h : Memo ls os n M kn kvs) (hn : n ≤ 12) (hm : os.length ≤ 15) : kvs.length < sizeLine := by
  have q := keys_few (m := os.length) (n := n) h.nd fun kv hkv => let ⟨i, ids, a, b, c, _⟩ := h.ok kv hkv; ⟨i, ids, a, b, c⟩
  have p : 2 ^ os.length ≤ 2 ^ 15 := Nat.pow_le_pow_right (by omega) hm
  have r : (n + 1) * 2 ^ os.length ≤ 13 * 2 ^ 15 := Nat.mul_le_mul (by omega) p
  have z : 13 * 2 ^ 15 < sizeLine := by decide
  omega
theorem Memo.grow {ls : List (List D)} {os : List (List (List D))} {n kn : Nat} {M M' : Mem} {kvs : List (D × D)} (h : Memo ls os n M kn kvs) (g : Grow M M' kn) (e : M'[kn]? = some (.dct kvs)) : Memo ls os n M' kn kvs where
  at_ := e
  nd := h.nd
  ok := fun kv hkv => let ⟨i, ids, a, b, c, d⟩ := h.ok kv hkv; ⟨i, ids, a, b, c, g.shows h.at_ d⟩
/-- an entry more -/
theorem Memo.put {ls : List (List D)} {os : List (List (List D))} {n kn i : Nat} {M : Mem} {kvs : List (D × D)} {ids : List Nat} {v : D} (h : Memo ls os n M kn kvs) (hi : i ≤ n) (hids : ids.Sublist (List.range os.length)) (hv : Shows M v (through (ls.drop i) i (sel os ids))) :
    Memo ls os n (M.set kn (.dct (dctPut kvs (key i ids) v))) kn (dctPut kvs (key i ids) v) where
  at_ := set_at h.at_
  nd := put_keys h.nd
  ok := fun kv hkv => by
    rcases put_mem hkv with q | q
    · obtain ⟨j, js, a, b, c, d⟩ := h.ok kv q
      exact ⟨j, js, a, b, c, Grow.set.shows h.at_ d⟩
    · subst q
      exact ⟨i, ids, rfl, hi, hids, Grow.set.shows h.at_ hv⟩
/-- what the memo tells -/
theorem Memo.get {ls : List (List D)} {os : List (List (List D))} {n kn i : Nat} {M : Mem} {kvs : List (D × D)} {ids : List Nat} {v : D} (h : Memo ls os n M kn kvs) (e : dctGet kvs (key i ids) = some v) : Shows M v (through (ls.drop i) i (sel os ids)) := by
  obtain ⟨j, js, a, b, c, d⟩ := h.ok _ (get_mem e)
  obtain ⟨rfl, rfl⟩ := key_inj a
  exact d
end K78
set_option Elab.async false
set_option linter.all false
set_option maxRecDepth 100000
set_option maxHeartbeats 4000000
/-! X78: outside_from. -/
namespace K78
open PySem Ev
/-- the others, by number -/
def IxO (M : Mem) (od : D) (os : List (List (List D))) : Prop := seqOf M od = some (osD os) ∧ (∀ z, od ≠ .str z)
theorem ix_oth {M : Mem} {od : D} {os : List (List (List D))} (h : IxO M od os) {j : Nat} (hj : j < os.length) : ixD od (.int j) M = .ok (lotsD os[j]) M := by
  have e1 : L2.atI (osD os) (j : Int) = some (lotsD os[j]) := by
    rw [atI_nat]
    unfold osD
    rw [List.getElem?_map, List.getElem?_eq_getElem hj]
    rfl
  obtain ⟨h1, h2⟩ := h
  cases od with
  | lst ys =>
    have e : ys = osD os := by simpa [seqOf] using h1
    subst e
    show (match L2.atI (osD os) (j : Int) with | some v => Res.ok v M | none => .bad) = _
    rw [e1]
  | ref k =>
    have e := lstAt_some (show lstAt M k = some (osD os) from h1)
    exact ix_ref e e1
  | _ => cases h1
abbrev lcLate : Den := eLc false [7] (iSeq (eV 3)) (.nm 7) (testsD [(tCmp .In (eV 5) (eIx (eIx (eV 1) (eV 7)) (eV 2)))]) (eV 7)
theorem late_spec {M : Mem} {a0 od a4 x : D} {o6 o7 : Option D} {n i : Nat} {os : List (List (List D))} {ids : List Nat} (h : Ok n os) (hi : i < n) (ho : IxO M od os) (hids : ∀ j ∈ ids, j < os.length) (hz : ids.length ≤ sizeLine) (hx : Pl 8 x = true) (hf : flatD x = false) :
    lcLate [some a0, some od, some (.int i), some (.tup (idsD ids)), some a4, some x, o6, o7] M = .ok (.lst (idsD (lateOf os x i ids))) M := by
  have e := lc_filter (M := M) (vs := [7]) (src := iSeq (eV 3)) (tg := .nm 7) (ts := testsD [(tCmp .In (eV 5) (eIx (eIx (eV 1) (eV 7)) (eV 2)))]) (elt := eV 7) (g := []) (δ := [some a0, some od, some (.int i), some (.tup (idsD ids)), some a4, some x, o6, o7]) (xs := idsD ids) (f := id)
    (p := fun d => match d with | .int j => (match os[j.toNat]? with | some o => hasA x (o.getD i []) | none => false) | _ => false) rfl gd_nil (by unfold idsD; rw [List.length_map]; exact hz) fun d hd => ?_
  · show eLc false [7] (iSeq (eV 3)) (.nm 7) (testsD [(tCmp .In (eV 5) (eIx (eIx (eV 1) (eV 7)) (eV 2)))]) (eV 7) [some a0, some od, some (.int i), some (.tup (idsD ids)), some a4, some x, o6, o7] M = _
    rw [e, List.map_id]
    unfold idsD lateOf
    rw [List.filter_map]
    congr 3
  · obtain ⟨j, hj, rfl⟩ := List.mem_map.mp hd
    have hl := hids j hj
    have hio : i < os[j].length := by rw [h.len _ (List.getElem_mem hl)]; exact hi
    refine ⟨_, set_nm, ?_, fun _ => rfl⟩
    have x1 := ix_oth ho hl
    have x2 : ixD (lotsD os[j]) (.int i) M = .ok (.lst os[j][i]) M := by
      have e1 : L2.atI (os[j].map D.lst) (i : Int) = some (.lst os[j][i]) := by
        rw [atI_nat, List.getElem?_map, List.getElem?_eq_getElem hio]
        rfl
      show (match L2.atI (os[j].map D.lst) (i : Int) with | some v => Res.ok v M | none => .bad) = _
      rw [e1]
    have x3 := in_spec (M := M) hx hf (h.pa _ (List.getElem_mem hl) os[j][i] (List.getElem_mem hio))
    show ((Res.ok x M).bind fun x M => ((((Res.ok od M).bind fun a M => (Res.ok (.int (j : Int)) M).bind fun b M => ixD a b M).bind fun a M => (Res.ok (.int i) M).bind fun b M => ixD a b M)).bind fun y M => optB (cmpD .In x y M) M) = _
    simp only [rb_ok, x1, x2, x3, optB_some]
    have hg : os[((j : Int)).toNat]? = some os[j] := by rw [Int.toNat_natCast, List.getElem?_eq_getElem hl]
    simp only [hg]
    congr 2
    simp [hio]
abbrev keyE : Den := eTup [(false, (eBin .Add (eV 2) (eC (.int (1))))), (false, (eV 6))]
abbrev stepS (call : List D → Mem → Res D) : DenS := (sSeq (sSet (.nm 6) (eBi .tuple [(false, eLc false [7] (iSeq (eV 3)) (.nm 7) (testsD [(tCmp .In (eV 5) (eIx (eIx (eV 1) (eV 7)) (eV 2)))]) (eV 7))]))
    (sSeq (sIf (tCmp .NotIn keyE (eV 4))
    (sSetIx (eV 4) keyE (eCall call (withDfl ["lots", "others", "at", "left", "known"] []) [(false, (eV 0)), (false, (eV 1)), (false, (eBin .Add (eV 2) (eC (.int (1))))), (false, (eV 6)), (false, (eV 4))] [] []))
    sNx)
    (sIf (tCmp .IsNot (eIx (eV 4) keyE) (eC .non))
    (sRet (eLst true [(false, (eV 5)), (true, (eIx (eV 4) keyE))]))
    sNx)))
theorem key_ev {M : Mem} {a0 a1 a3 a4 x : D} {i : Nat} {ids : List Nat} {o7 : Option D} : keyE [some a0, some a1, some (.int i), some a3, some a4, some x, some (.tup (idsD ids)), o7] M = .ok (key (i + 1) ids) M := by
  have u2 : (2 : Nat) ≤ sizeLine := by decide
  simp [eTup, eL_nil, eL_one, eBin, bin_add, add_int, eV, eC, rb_ok, guardR, u2, key]
theorem not_in {M : Mem} {kn : Nat} {kvs : List (D × D)} {k : D} (h : M[kn]? = some (.dct kvs)) (hk : inD.keyOk k = true) : cmpD .NotIn k (.ref kn) M = some (!(kvs.any fun kv => D.same kv.1 k)) := by
  show (inD k (.ref kn) M).map (!·) = _
  have l : lstAt M kn = none := by unfold lstAt; rw [h]
  have e : inD k (.ref kn) M = some (kvs.any fun kv => D.same kv.1 k) := by
    show (match lstAt M kn with
      | some ys => inD.inL k ys M
      | none => (match M[kn]? with
        | some (.dct kvs) => if inD.keyOk k then some (kvs.any fun kv => D.same kv.1 k) else none
        | _ => none)) = _
    rw [l, h]
    show (if inD.keyOk k then some (kvs.any fun kv => D.same kv.1 k) else none) = _
    rw [if_pos hk]
  rw [e]
  rfl
theorem ix_dct {M : Mem} {kn : Nat} {kvs : List (D × D)} {k v : D} (h : M[kn]? = some (.dct kvs)) (hk : inD.keyOk k = true) (e : dctGet kvs k = some v) : ixD (.ref kn) k M = .ok v M := by
  show ixObj M[kn]? k M = _
  rw [h]
  obtain ⟨_, ds, rfl⟩ := ok8 hk
  show (if inD.keyOk (.tup ds) then (match dctGet kvs (.tup ds) with | some v => Res.ok v M | none => .bad) else .bad) = _
  rw [if_pos hk, e]
theorem set_dct {M : Mem} {kn : Nat} {kvs : List (D × D)} {k v : D} (h : M[kn]? = some (.dct kvs)) (hk : inD.keyOk k = true) (hl : kvs.length < sizeLine) : setIx (.ref kn) k v M = some (M.set kn (.dct (dctPut kvs k v))) := by
  show (setObj M[kn]? k v).map (fun ob => M.set kn ob) = _
  rw [h]
  obtain ⟨_, ds, rfl⟩ := ok8 hk
  show (if inD.keyOk (.tup ds) && decide (kvs.length < sizeLine) then some (Ob.dct (dctPut kvs (.tup ds) v)) else none).map (fun ob => M.set kn ob) = _
  rw [hk, decide_eq_true hl]
  rfl
theorem lots_cat {n : Nat} {os : List (List (List D))} {i : Nat} {ids : List Nat} {x : D} : (lateOf os x i ids).Sublist ids := List.filter_sublist
/-- one turn of the loop: the memo is asked, or filled -/
theorem fill_spec {call : List D → Mem → Res D} {M : Mem} {kn n i : Nat} {kvs : List (D × D)} {ls : List (List D)} {os : List (List (List D))} {od x : D} {ids : List Nat} {o6 o7 : Option D} (hok : Ok n os) (hn : n ≤ 12) (hm : os.length ≤ 15) (hi : i < n) (hids : ids.Sublist (List.range os.length))
    (ho : IxO M od os) (memo : Memo ls os n M kn kvs) (hx : Pl 8 x = true) (hf : flatD x = false)
    (hcall : ∀ (js : List Nat) (M : Mem) (kvs : List (D × D)), js.Sublist (List.range os.length) → IxO M od os → Memo ls os n M kn kvs → ∃ v M' kvs', call [lotsD ls, od, .int ((i + 1 : Nat) : Int), .tup (idsD js), .ref kn] M = .ok v M' ∧ Memo ls os n M' kn kvs' ∧ Grow M M' kn ∧ Shows M' v (through (ls.drop (i + 1)) (i + 1) (sel os js)))
    (rest : DenS) : ∃ M1 kvs1 v, Memo ls os n M1 kn kvs1 ∧ Grow M M1 kn ∧ dctGet kvs1 (key (i + 1) (lateOf os x i ids)) = some v ∧
      (sSeq (sSet (.nm 6) (eBi .tuple [(false, lcLate)])) (sSeq (sIf (tCmp .NotIn keyE (eV 4))
        (sSetIx (eV 4) keyE (eCall call (withDfl ["lots", "others", "at", "left", "known"] []) [(false, (eV 0)), (false, (eV 1)), (false, (eBin .Add (eV 2) (eC (.int (1))))), (false, (eV 6)), (false, (eV 4))] [] [])) sNx) rest))
        [some (lotsD ls), some od, some (.int i), some (.tup (idsD ids)), some (.ref kn), some x, o6, o7] M = rest [some (lotsD ls), some od, some (.int i), some (.tup (idsD ids)), some (.ref kn), some x, some (.tup (idsD (lateOf os x i ids))), o7] M1 := by
  have hl : ids.length ≤ sizeLine := by
    have := hids.length_le
    rw [List.length_range] at this
    have := lines
    omega
  have late := late_spec (a0 := lotsD ls) (a4 := .ref kn) (x := x) (o6 := o6) (o7 := o7) hok hi ho (fun j hj => List.mem_range.mp (hids.subset hj)) hl hx hf
  generalize hjs : lateOf os x i ids = js at late
  have hsub : js.Sublist (List.range os.length) := by rw [← hjs]; exact (List.filter_sublist).trans hids
  have st1 : sSet (.nm 6) (eBi .tuple [(false, lcLate)]) [some (lotsD ls), some od, some (.int i), some (.tup (idsD ids)), some (.ref kn), some x, o6, o7] M = .ok (.nx [some (lotsD ls), some od, some (.int i), some (.tup (idsD ids)), some (.ref kn), some x, some (.tup (idsD js)), o7]) M := by
    have e : eBi .tuple [(false, lcLate)] [some (lotsD ls), some od, some (.int i), some (.tup (idsD ids)), some (.ref kn), some x, o6, o7] M = .ok (.tup (idsD js)) M := by
      show ((eL [(false, lcLate)] _ M).bind fun xs M => biD .tuple xs M) = _
      rw [eL_one, late]
      rfl
    show ((eBi .tuple [(false, lcLate)] _ M).bind fun x M => _) = _
    rw [e]
    rfl
  have ke := key_ev (M := M) (a0 := lotsD ls) (a1 := od) (a3 := .tup (idsD ids)) (a4 := .ref kn) (x := x) (i := i) (ids := js) (o7 := o7)
  have kk := key_ok (i + 1) js
  have nin := not_in (k := key (i + 1) js) memo.at_ kk
  have te : tCmp .NotIn keyE (eV 4) [some (lotsD ls), some od, some (.int i), some (.tup (idsD ids)), some (.ref kn), some x, some (.tup (idsD js)), o7] M = .ok (!(kvs.any fun kv => D.same kv.1 (key (i + 1) js))) M := by
    show ((keyE _ M).bind fun x M => (eV 4 _ M).bind fun y M => optB (cmpD .NotIn x y M) M) = _
    rw [ke, rb_ok]
    show optB (cmpD .NotIn (key (i + 1) js) (.ref kn) M) M = _
    rw [nin]
    rfl
  cases hany : kvs.any fun kv => D.same kv.1 (key (i + 1) js) with
  | true =>
    obtain ⟨v, hv⟩ := any_get hany
    refine ⟨M, kvs, v, memo, Grow.refl _ _, hv, ?_⟩
    rw [hany] at te
    show ((sSet (.nm 6) _ _ M).bind _) = _
    rw [st1, rb_ok]
    show (((tCmp .NotIn keyE (eV 4) _ M).bind _).bind _) = _
    rw [te]
    rfl
  | false =>
    obtain ⟨v, M1, kvs1, h1, h2, h3, h4⟩ := hcall js M kvs hsub ho memo
    have few := h2.few hn hm
    have sd := set_dct (v := v) h2.at_ kk few
    refine ⟨M1.set kn (.dct (dctPut kvs1 (key (i + 1) js) v)), dctPut kvs1 (key (i + 1) js) v, v, h2.put (by omega) hsub h4, h3.trans Grow.set, get_put, ?_⟩
    rw [hany] at te
    have cal : eCall call (withDfl ["lots", "others", "at", "left", "known"] []) [(false, (eV 0)), (false, (eV 1)), (false, (eBin .Add (eV 2) (eC (.int (1))))), (false, (eV 6)), (false, (eV 4))] [] [] [some (lotsD ls), some od, some (.int i), some (.tup (idsD ids)), some (.ref kn), some x, some (.tup (idsD js)), o7] M = .ok v M1 := by
      rw [call_pos (xs := [lotsD ls, od, .int ((i + 1 : Nat) : Int), .tup (idsD js), .ref kn]) (ys := [lotsD ls, od, .int ((i + 1 : Nat) : Int), .tup (idsD js), .ref kn]) (M' := M) rfl rfl, h1]
      rfl
    have ke1 := key_ev (M := M1) (a0 := lotsD ls) (a1 := od) (a3 := .tup (idsD ids)) (a4 := .ref kn) (x := x) (i := i) (ids := js) (o7 := o7)
    show ((sSet (.nm 6) _ _ M).bind _) = _
    rw [st1, rb_ok]
    show (((tCmp .NotIn keyE (eV 4) _ M).bind _).bind _) = _
    rw [te, rb_ok]
    show ((sSetIx (eV 4) keyE _ _ M).bind _) = _
    have se : sSetIx (eV 4) keyE (eCall call (withDfl ["lots", "others", "at", "left", "known"] []) [(false, (eV 0)), (false, (eV 1)), (false, (eBin .Add (eV 2) (eC (.int (1))))), (false, (eV 6)), (false, (eV 4))] [] []) [some (lotsD ls), some od, some (.int i), some (.tup (idsD ids)), some (.ref kn), some x, some (.tup (idsD js)), o7] M = .ok (.nx [some (lotsD ls), some od, some (.int i), some (.tup (idsD ids)), some (.ref kn), some x, some (.tup (idsD js)), o7]) (M1.set kn (.dct (dctPut kvs1 (key (i + 1) js) v))) := by
      show ((eCall call _ _ _ _ _ M).bind fun v M => (eV 4 _ M).bind fun x M => (keyE _ M).bind fun y M => _) = _
      rw [cal, rb_ok]
      have e4 : eV 4 [some (lotsD ls), some od, some (.int i), some (.tup (idsD ids)), some (.ref kn), some x, some (.tup (idsD js)), o7] M1 = .ok (.ref kn) M1 := rfl
      rw [e4, rb_ok, ke1, rb_ok, sd]
    rw [se, rb_ok]
/-- .. and what a turn tells -/
theorem tell_spec {M : Mem} {kn n i : Nat} {kvs : List (D × D)} {ls : List (List D)} {os : List (List (List D))} {a0 a1 a3 x v : D} {js : List Nat} {o7 : Option D} (memo : Memo ls os n M kn kvs) (hv : dctGet kvs (key (i + 1) js) = some v) (hp : ∀ p, through (ls.drop (i + 1)) (i + 1) (sel os js) = some p → p.length < 400) :
    match through (ls.drop (i + 1)) (i + 1) (sel os js) with
    | some p => (sIf (tCmp .IsNot (eIx (eV 4) keyE) (eC .non)) (sRet (eLst true [(false, (eV 5)), (true, (eIx (eV 4) keyE))])) sNx) [some a0, some a1, some (.int i), some a3, some (.ref kn), some x, some (.tup (idsD js)), o7] M = .ok (.rt (.ref M.length)) (M ++ [.lst (x :: p)])
    | none => (sIf (tCmp .IsNot (eIx (eV 4) keyE) (eC .non)) (sRet (eLst true [(false, (eV 5)), (true, (eIx (eV 4) keyE))])) sNx) [some a0, some a1, some (.int i), some a3, some (.ref kn), some x, some (.tup (idsD js)), o7] M = .ok (.nx [some a0, some a1, some (.int i), some a3, some (.ref kn), some x, some (.tup (idsD js)), o7]) M := by
  have sh := memo.get hv
  have ke := key_ev (M := M) (a0 := a0) (a1 := a1) (a3 := a3) (a4 := .ref kn) (x := x) (i := i) (ids := js) (o7 := o7)
  have ie : eIx (eV 4) keyE [some a0, some a1, some (.int i), some a3, some (.ref kn), some x, some (.tup (idsD js)), o7] M = .ok v M := by
    have e4 : eV 4 [some a0, some a1, some (.int i), some a3, some (.ref kn), some x, some (.tup (idsD js)), o7] M = .ok (.ref kn) M := rfl
    show ((eV 4 _ M).bind fun x M => (keyE _ M).bind fun y M => ixD x y M) = _
    rw [e4, rb_ok, ke, rb_ok, ix_dct memo.at_ (key_ok _ _) hv]
  have te : ∀ b, cmpD .IsNot v .non M = some b → tCmp .IsNot (eIx (eV 4) keyE) (eC .non) [some a0, some a1, some (.int i), some a3, some (.ref kn), some x, some (.tup (idsD js)), o7] M = .ok b M := fun b hb => by
    show ((eIx (eV 4) keyE _ M).bind fun x M => (eC .non _ M).bind fun y M => optB (cmpD .IsNot x y M) M) = _
    rw [ie, rb_ok]
    show optB (cmpD .IsNot v .non M) M = _
    rw [hb]
    rfl
  cases ht : through (ls.drop (i + 1)) (i + 1) (sel os js) with
  | none =>
    rw [ht] at sh
    have ev : v = .non := sh
    subst ev
    show ((tCmp .IsNot (eIx (eV 4) keyE) (eC .non) _ M).bind _) = _
    rw [te false rfl]
    rfl
  | some p =>
    rw [ht] at sh
    have sq : seqOf M v = some p := sh
    have nn : cmpD .IsNot v .non M = some true := by
      cases v with
      | lst ys => rfl
      | ref j =>
        have e := lstAt_some (show lstAt M j = some p from sq)
        show ((match M[j]? with
          | some .dead => none
          | none => none
          | some _ => some false : Option Bool)).map (!·) = _
        rw [e]
        rfl
      | _ => cases sq
    have an : anyOf M v = some p := by
      cases v with
      | lst ys => exact sq
      | ref j => exact sq
      | _ => cases sq
    have lp := hp p ht
    have e5 : eV 5 [some a0, some a1, some (.int i), some a3, some (.ref kn), some x, some (.tup (idsD js)), o7] M = .ok x M := rfl
    have el : eL [(false, eV 5), (true, eIx (eV 4) keyE)] [some a0, some a1, some (.int i), some a3, some (.ref kn), some x, some (.tup (idsD js)), o7] M = .ok (x :: p) M := by
      rw [eL_one, e5, rb_ok]
      have e : eL [(true, eIx (eV 4) keyE)] [some a0, some a1, some (.int i), some a3, some (.ref kn), some x, some (.tup (idsD js)), o7] M = ((eIx (eV 4) keyE [some a0, some a1, some (.int i), some a3, some (.ref kn), some x, some (.tup (idsD js)), o7] M).bind fun x M => match anyOf M x with
        | some ys => (eL [] [some a0, some a1, some (.int i), some a3, some (.ref kn), some x, some (.tup (idsD js)), o7] M).bind fun xs M => .ok (ys ++ xs) M
        | none => .bad) := rfl
      rw [e, ie, rb_ok, an]
      show Res.ok (x :: (p ++ [])) M = _
      rw [List.append_nil]
    have ll : eLst true [(false, eV 5), (true, eIx (eV 4) keyE)] [some a0, some a1, some (.int i), some a3, some (.ref kn), some x, some (.tup (idsD js)), o7] M = .ok (.ref M.length) (M ++ [.lst (x :: p)]) := by
      show ((eL _ _ M).bind fun xs M => if xs.length ≤ sizeLine then newL true xs M else .bad) = _
      rw [el, rb_ok, if_pos (by have := lines; simp; omega)]
      rfl
    show ((tCmp .IsNot (eIx (eV 4) keyE) (eC .non) _ M).bind _) = _
    rw [te true nn, rb_ok]
    show ((eLst true _ _ M).bind _) = _
    rw [ll]
    rfl
end K78
set_option Elab.async false
set_option linter.all false
set_option maxRecDepth 100000
set_option maxHeartbeats 4000000
/-! Y78: outside_from: its loop, its recursion. -/
namespace K78
open PySem Ev
theorem first_len {f : D → Option (List D)} {m : Nat} : ∀ {xs : List D} {r : List D}, (∀ x p, f x = some p → p.length ≤ m) → firstSome (fun x => (f x).map (x :: ·)) xs = some r → r.length ≤ m + 1
  | [], _, _, h => by cases h
  | x :: xs, r, hf, h => by
    unfold firstSome at h
    cases hx : f x with
    | some p =>
      rw [hx] at h
      have e : x :: p = r := by simpa using h
      rw [← e]
      have := hf x p hx
      simp
      omega
    | none =>
      rw [hx] at h
      exact first_len hf h
theorem through_len : ∀ (ls : List (List D)) (i : Nat) (os : List (List (List D))) (p : List D), through ls i os = some p → p.length ≤ ls.length
  | [], i, os, p, h => by
    unfold through at h
    split at h
    · cases h; exact Nat.le_refl _
    · cases h
  | l :: ls, i, os, p, h => first_len (m := ls.length) (fun x p hp => through_len ls (i + 1) _ p hp) h
theorem IxO.grow {M M' : Mem} {kn : Nat} {kvs : List (D × D)} {od : D} {os : List (List (List D))} (h : IxO M od os) (g : Grow M M' kn) (hk : M[kn]? = some (.dct kvs)) : IxO M' od os := ⟨g.seq hk h.1, h.2⟩
/-- the loop -/
theorem loopO {call : List D → Mem → Res D} {kn n i : Nat} {ls : List (List D)} {os : List (List (List D))} {od : D} {ids : List Nat} {o7 : Option D} (hok : Ok n os) (hls : ls.length ≤ 12) (hn : n ≤ 12) (hm : os.length ≤ 15) (hi : i < n) (hids : ids.Sublist (List.range os.length))
    (hcall : ∀ (js : List Nat) (M : Mem) (kvs : List (D × D)), js.Sublist (List.range os.length) → IxO M od os → Memo ls os n M kn kvs → ∃ v M' kvs', call [lotsD ls, od, .int ((i + 1 : Nat) : Int), .tup (idsD js), .ref kn] M = .ok v M' ∧ Memo ls os n M' kn kvs' ∧ Grow M M' kn ∧ Shows M' v (through (ls.drop (i + 1)) (i + 1) (sel os js))) :
    ∀ (xs : List D), Pa xs → ∀ (M : Mem) (kvs : List (D × D)) (o5 o6 : Option D), IxO M od os → Memo ls os n M kn kvs → ∃ M' kvs', Memo ls os n M' kn kvs' ∧ Grow M M' kn ∧
      match firstSome (fun x => (through (ls.drop (i + 1)) (i + 1) (keepA x i (sel os ids))).map (x :: ·)) xs with
      | some r => ∃ m, M.length ≤ m ∧ forGo (.nm 5) (stepS call) [] xs [some (lotsD ls), some od, some (.int i), some (.tup (idsD ids)), some (.ref kn), o5, o6, o7] M = .ok (.rt (.ref m)) M' ∧ seqOf M' (.ref m) = some r
      | none => ∃ o5' o6', forGo (.nm 5) (stepS call) [] xs [some (lotsD ls), some od, some (.int i), some (.tup (idsD ids)), some (.ref kn), o5, o6, o7] M = .ok (.nx [some (lotsD ls), some od, some (.int i), some (.tup (idsD ids)), some (.ref kn), o5', o6', o7]) M'
  | [], _, M, kvs, o5, o6, _, memo => ⟨M, kvs, memo, Grow.refl _ _, o5, o6, for_nil⟩
  | x :: xs, hp, M, kvs, o5, o6, ho, memo => by
    obtain ⟨px, fx⟩ := hp x (by simp)
    obtain ⟨M1, kvs1, v, m1, g1, hv, e1⟩ := fill_spec (o6 := o6) (o7 := o7) hok hn hm hi hids ho memo px fx hcall (sIf (tCmp .IsNot (eIx (eV 4) keyE) (eC .non)) (sRet (eLst true [(false, (eV 5)), (true, (eIx (eV 4) keyE))])) sNx)
    have tl := tell_spec (a0 := lotsD ls) (a1 := od) (a3 := .tup (idsD ids)) (x := x) (o7 := o7) m1 hv (fun p hp => by
      have := through_len _ _ _ _ hp
      rw [List.length_drop] at this
      omega)
    rw [← sel_late] at tl
    have fc : forGo (.nm 5) (stepS call) [] (x :: xs) [some (lotsD ls), some od, some (.int i), some (.tup (idsD ids)), some (.ref kn), o5, o6, o7] M = (stepS call [some (lotsD ls), some od, some (.int i), some (.tup (idsD ids)), some (.ref kn), some x, o6, o7] M).bind fun f M => (match f with
        | .nx δ => forGo (.nm 5) (stepS call) [] xs δ M
        | .ct δ => forGo (.nm 5) (stepS call) [] xs δ M
        | .bk δ => .ok (.nx δ) M
        | .rt d => .ok (.rt d) M) := for_cons rfl
    have e1' : stepS call [some (lotsD ls), some od, some (.int i), some (.tup (idsD ids)), some (.ref kn), some x, o6, o7] M = _ := e1
    cases ht : through (ls.drop (i + 1)) (i + 1) (keepA x i (sel os ids)) with
    | some p =>
      rw [ht] at tl
      have fs : firstSome (fun x => (through (ls.drop (i + 1)) (i + 1) (keepA x i (sel os ids))).map (x :: ·)) (x :: xs) = some (x :: p) := by simp [firstSome, ht]
      rw [fs]
      have at1 : (M1 ++ [.lst (x :: p)])[kn]? = some (.dct kvs1) := by rw [List.getElem?_append_left (List.getElem?_eq_some_iff.mp m1.at_).1]; exact m1.at_
      refine ⟨M1 ++ [.lst (x :: p)], kvs1, m1.grow Grow.app at1, g1.trans Grow.app, M1.length, g1.len, ?_, ?_⟩
      · rw [fc, e1', tl]
        rfl
      · show lstAt _ _ = _
        exact lstAt_of (by simp)
    | none =>
      rw [ht] at tl
      have fs : firstSome (fun x => (through (ls.drop (i + 1)) (i + 1) (keepA x i (sel os ids))).map (x :: ·)) (x :: xs) = firstSome (fun x => (through (ls.drop (i + 1)) (i + 1) (keepA x i (sel os ids))).map (x :: ·)) xs := by simp [firstSome, ht]
      rw [fs]
      obtain ⟨M2, kvs2, m2, g2, q⟩ := loopO (o7 := o7) hok hls hn hm hi hids hcall xs (fun y hy => hp y (List.mem_cons_of_mem _ hy)) M1 kvs1 (some x) (some (.tup (idsD (lateOf os x i ids)))) (ho.grow g1 memo.at_) m1
      refine ⟨M2, kvs2, m2, g1.trans g2, ?_⟩
      have e2 : forGo (.nm 5) (stepS call) [] (x :: xs) [some (lotsD ls), some od, some (.int i), some (.tup (idsD ids)), some (.ref kn), o5, o6, o7] M = forGo (.nm 5) (stepS call) [] xs [some (lotsD ls), some od, some (.int i), some (.tup (idsD ids)), some (.ref kn), some x, some (.tup (idsD (lateOf os x i ids))), o7] M1 := by
        rw [fc, e1', tl]
        rfl
      rw [e2]
      cases hf : firstSome (fun x => (through (ls.drop (i + 1)) (i + 1) (keepA x i (sel os ids))).map (x :: ·)) xs with
      | some r =>
        rw [hf] at q
        obtain ⟨m, a, b, c⟩ := q
        exact ⟨m, Nat.le_trans g1.len a, b, c⟩
      | none =>
        rw [hf] at q
        exact q
theorem sel_empty {os : List (List (List D))} : ∀ {ids : List Nat}, (∀ j ∈ ids, j < os.length) → (sel os ids).isEmpty = ids.isEmpty
  | [], _ => rfl
  | j :: ids, h => by
    have hj := h j (by simp)
    unfold sel
    rw [List.filterMap_cons, List.getElem?_eq_getElem hj]
    rfl
theorem outside_spec (k : Nat) {kn n : Nat} {ls : List (List D)} {os : List (List (List D))} {od : D} (hok : Ok n os) (hla : ∀ l ∈ ls, Pa l) (hls : ls.length = n) (hn : n ≤ 12) (hm : os.length ≤ 15) : ∀ (r i : Nat), i + r = n → ∀ (ids : List Nat) (M : Mem) (kvs : List (D × D)), ids.Sublist (List.range os.length) → IxO M od os → Memo ls os n M kn kvs →
    ∃ v M' kvs', callD cfg (r + 1 + k) "outside_from" [lotsD ls, od, .int (i : Nat), .tup (idsD ids), .ref kn] M = .ok v M' ∧ Memo ls os n M' kn kvs' ∧ Grow M M' kn ∧ Shows M' v (through (ls.drop i) i (sel os ids)) ∧ (0 < r → ∀ p, through (ls.drop i) i (sel os ids) = some p → ∃ m, M.length ≤ m ∧ v = .ref m)
  | 0, i, hi, ids, M, kvs, hids, ho, memo => by
    have e : (0 + 1 + k) = k + 1 := by omega
    rw [e, c_outside_from]
    have ei : i = n := by omega
    subst ei
    have dn : ls.drop i = [] := List.drop_eq_nil_of_le (by omega)
    have c1 : cmpD .Eq (.int (i : Int)) (.int i) M = some true := by
      have e : cmpD .Eq (.int (i : Int)) (.int i) M = eqD (.int i) (.int i) M := rfl
      rw [e, eq_int]; simp
    have l1 : biD .len [lotsD ls] M = .ok (.int i) M := by
      show Res.ok (D.int ((ls.map D.lst).length : Nat)) M = _
      rw [List.length_map, hls]
    have pl : Pl 2 (.tup (idsD ids)) = true := by
      show (idsD ids).all (Pl 1) = true
      exact List.all_eq_true.mpr fun x hx => by
        obtain ⟨j, _, rfl⟩ := List.mem_map.mp hx
        rfl
    have c2 : cmpD .Eq (.tup (idsD ids)) (.tup []) M = some ids.isEmpty := by
      have e : cmpD .Eq (.tup (idsD ids)) (.tup []) M = eqD (.tup (idsD ids)) (.tup []) M := rfl
      rw [e, eqD_pd (h := 2) (h' := 2) (pd_of 2 _ pl) (pd_of 2 (.tup []) rfl) (by omega) (by omega)]
      cases ids <;> rfl
    have n1 : eTup [] [some (lotsD ls), some od, some (.int i), some (.tup (idsD ids)), some (.ref kn), none, none, none] M = .ok (.tup []) M := rfl
    have se := sel_empty (os := os) (ids := ids) fun j hj => List.mem_range.mp (hids.subset hj)
    rw [dn]
    cases he : ids.isEmpty with
    | true =>
      refine ⟨.lst [], M, kvs, ?_, memo, Grow.refl _ _, ?_, fun h => absurd h (Nat.lt_irrefl _)⟩
      · have n2 : eLst false [] [some (lotsD ls), some od, some (.int i), some (.tup (idsD ids)), some (.ref kn), none, none, none] M = .ok (.lst []) M := rfl
        simp [b_outside_from, startD, sSeq, sIf, sRet, tCmp, eIf, eBi, eL_nil, eL_one, eV, eC, rb_ok, c1, l1, optB_some, n1, n2, c2, he, end_rt]
      · unfold through
        rw [se, he]
        rfl
    | false =>
      refine ⟨.non, M, kvs, ?_, memo, Grow.refl _ _, ?_, fun h => absurd h (Nat.lt_irrefl _)⟩
      · simp [b_outside_from, startD, sSeq, sIf, sRet, tCmp, eIf, eBi, eL_nil, eL_one, eV, eC, rb_ok, c1, l1, optB_some, n1, c2, he, end_rt]
      · unfold through
        rw [se, he]
        rfl
  | r + 1, i, hi, ids, M, kvs, hids, ho, memo => by
    have e : (r + 1 + 1 + k) = (r + 1 + k) + 1 := by omega
    rw [e, c_outside_from]
    have hlt : i < ls.length := by omega
    have dn : ls.drop i = ls[i] :: ls.drop (i + 1) := List.drop_eq_getElem_cons hlt
    have c1 : cmpD .Eq (.int (i : Int)) (.int ls.length) M = some false := by
      have e : cmpD .Eq (.int (i : Int)) (.int ls.length) M = eqD (.int i) (.int ls.length) M := rfl
      rw [e, eq_int]
      have : ¬ ((i : Int) = (ls.length : Int)) := by omega
      simp [this]
    have l1 : biD .len [lotsD ls] M = .ok (.int ls.length) M := by
      show Res.ok (D.int ((ls.map D.lst).length : Nat)) M = _
      rw [List.length_map]
    have ix : ixD (lotsD ls) (.int (i : Int)) M = .ok (.lst ls[i]) M := by
      have e1 : L2.atI (ls.map D.lst) (i : Int) = some (.lst ls[i]) := by
        rw [atI_nat, List.getElem?_map, List.getElem?_eq_getElem hlt]
        rfl
      show (match L2.atI (ls.map D.lst) (i : Int) with | some v => Res.ok v M | none => .bad) = _
      rw [e1]
    have is : iSeq (eIx (eV 0) (eV 2)) [some (lotsD ls), some od, some (.int i), some (.tup (idsD ids)), some (.ref kn), none, none, none] M = .ok (ls[i], []) M := by
      simp [iSeq, eIx, eV, rb_ok, ix, seqG]
    obtain ⟨M', kvs', m', g', q⟩ := loopO (call := callD cfg (r + 1 + k) "outside_from") (o7 := none) hok (by omega) hn hm (by omega) hids
      (fun js M kvs hj ho memo => let ⟨v, M', kvs', a, b, c, d, _⟩ := outside_spec k hok hla hls hn hm r (i + 1) (by omega) js M kvs hj ho memo; ⟨v, M', kvs', a, b, c, d⟩) ls[i] (hla _ (List.getElem_mem hlt)) M kvs none none ho memo
    rw [dn]
    show ∃ v M' kvs', _ = Res.ok v M' ∧ _ ∧ _ ∧ Shows M' v (firstSome (fun x => (through (ls.drop (i + 1)) (i + 1) (keepA x i (sel os ids))).map (x :: ·)) ls[i]) ∧ (_ → ∀ p, firstSome (fun x => (through (ls.drop (i + 1)) (i + 1) (keepA x i (sel os ids))).map (x :: ·)) ls[i] = some p → _)
    cases hf : firstSome (fun x => (through (ls.drop (i + 1)) (i + 1) (keepA x i (sel os ids))).map (x :: ·)) ls[i] with
    | some p =>
      rw [hf] at q
      obtain ⟨m, a, b, c⟩ := q
      refine ⟨.ref m, M', kvs', ?_, m', g', c, fun _ _ _ => ⟨m, a, rfl⟩⟩
      simp [b_outside_from, startD, sSeq, sIf, sRet, sNx, sFor, tCmp, eBi, eL_nil, eL_one, eV, eC, rb_ok, c1, l1, optB_some, is, b, end_rt]
    | none =>
      rw [hf] at q
      obtain ⟨o5, o6, b⟩ := q
      refine ⟨.non, M', kvs', ?_, m', g', rfl, fun _ p hp => by cases hp⟩
      simp [b_outside_from, startD, sSeq, sIf, sRet, sNx, sFor, tCmp, eBi, eL_nil, eL_one, eV, eC, rb_ok, c1, l1, optB_some, is, b, end_rt]
end K78
set_option Elab.async false
set_option linter.all false
set_option maxRecDepth 100000
set_option maxHeartbeats 4000000
/-! Z78: outside_there. -/
namespace K78
open PySem Ev
theorem first_none {f : D → Option (List D)} : ∀ {xs : List D}, (∀ x, f x = none) → firstSome f xs = none
  | [], _ => rfl
  | x :: xs, h => by
    unfold firstSome
    rw [h x]
    exact first_none h
theorem through_empty : ∀ {ls : List (List D)} {i : Nat} {os : List (List (List D))}, [] ∈ ls → through ls i os = none
  | [], _, _, h => by cases h
  | l :: ls, i, os, h => by
    rcases List.mem_cons.mp h with e | e
    · rw [← e]; rfl
    · exact first_none fun x => by rw [through_empty e]; rfl
theorem sel_all {os : List (List (List D))} : sel os (List.range os.length) = os := by
  unfold sel
  induction os with
  | nil => rfl
  | cons o os ih =>
    rw [List.length_cons, List.range_succ_eq_map, List.filterMap_cons]
    show o :: List.filterMap _ ((List.range os.length).map Nat.succ) = o :: os
    rw [List.filterMap_map]
    congr 1
/-- only new objects -/
structure Up (M M' : Mem) : Prop where
  len : M.length ≤ M'.length
  old : ∀ j, j < M.length → M'[j]? = M[j]?
theorem Up.refl (M : Mem) : Up M M := ⟨Nat.le_refl _, fun _ _ => rfl⟩
theorem Up.trans {M M1 M2 : Mem} (a : Up M M1) (b : Up M1 M2) : Up M M2 := ⟨Nat.le_trans a.len b.len, fun j h => (b.old j (Nat.lt_of_lt_of_le h a.len)).trans (a.old j h)⟩
theorem Up.app {M os : Mem} : Up M (M ++ os) := ⟨by simp, fun j h => List.getElem?_append_left h⟩
theorem Up.at_ {M M' : Mem} (a : Up M M') {j : Nat} {o : Ob} (h : M[j]? = some o) : M'[j]? = some o := (a.old j (List.getElem?_eq_some_iff.mp h).1).trans h
theorem Up.lst {M M' : Mem} (a : Up M M') {j : Nat} {xs : List D} (h : lstAt M j = some xs) : lstAt M' j = some xs := lstAt_of (a.at_ (lstAt_some h))
theorem Up.seq {M M' : Mem} (a : Up M M') {d : D} {xs : List D} (h : seqOf M d = some xs) : seqOf M' d = some xs := by
  cases d with
  | lst ys => exact h
  | ref j => exact a.lst h
  | _ => cases h
theorem any_seq {M : Mem} {d : D} {xs : List D} (h : seqOf M d = some xs) : anyOf M d = some xs := by
  cases d with
  | lst ys => exact h
  | ref j => exact h
  | _ => cases h
theorem len_seq {M : Mem} {d : D} {xs : List D} (h : seqOf M d = some xs) : biD .len [d] M = .ok (.int xs.length) M := by
  have a := any_seq h
  cases d with
  | lst ys => cases h; rfl
  | ref j =>
    show (match anyOf M (.ref j) with
      | some ys => Res.ok (D.int ys.length) M
      | none => .bad) = _
    rw [a]
  | _ => cases h
theorem bools_map {α : Type} (p : α → Bool) : ∀ xs : List α, boolsOf (xs.map fun x => D.bl (p x)) = some (xs.map p)
  | [] => rfl
  | x :: xs => by
    show (boolsOf (xs.map fun x => D.bl (p x))).map (p x :: ·) = _
    rw [bools_map p xs]
    rfl
theorem any_map {α : Type} {M : Mem} (p : α → Bool) (xs : List α) : biD .any [.lst (xs.map fun x => D.bl (p x))] M = .ok (.bl (xs.any p)) M := by
  show (match (seqOf M (.lst (xs.map fun x => D.bl (p x)))).bind boolsOf with | some bs => Res.ok (D.bl (bs.any id)) M | none => .bad) = _
  rw [show (seqOf M (.lst (xs.map fun x => D.bl (p x)))).bind boolsOf = boolsOf (xs.map fun x => D.bl (p x)) from rfl, bools_map]
  show Res.ok (D.bl ((xs.map p).any id)) M = _
  rw [List.any_map]
  rfl
theorem range_ids (m : Nat) : rangeD 0 m = idsD (List.range m) := by
  unfold rangeD idsD
  refine List.map_congr_left fun j _ => ?_
  rw [Int.zero_add]
theorem pl_lot {l : List D} (h : Pa l) : Pl 9 (.lst l) = true := by
  show l.all (Pl 8) = true
  exact List.all_eq_true.mpr fun x hx => (h x hx).1
theorem eq_empty {M : Mem} {l : List D} (h : Pa l) : cmpD .Eq (.lst l) (.lst []) M = some l.isEmpty := by
  have e : cmpD .Eq (.lst l) (.lst []) M = eqD (.lst l) (.lst []) M := rfl
  rw [e, eqD_pd (h := 9) (h' := 2) (pd_of 9 _ (pl_lot h)) (pd_of 2 (.lst []) rfl) (by omega) (by omega)]
  cases l <;> rfl
theorem there_spec (k : Nat) {n : Nat} {ls : List (List D)} {os : List (List (List D))} {od : D} (hok : Ok n os) (hla : ∀ l ∈ ls, Pa l) (hls : ls.length = n) (h0 : 0 < n) (hn : n ≤ 12) (hm : os.length ≤ 15) (M : Mem) (ho : IxO M od os) :
    ∃ v M', callD cfg (n + 2 + k) "outside_there" [lotsD ls, od] M = .ok v M' ∧ Up M M' ∧ Shows M' v (through ls 0 os) ∧ ∀ p, through ls 0 os = some p → ∃ m, M.length ≤ m ∧ v = .ref m := by
  have e : n + 2 + k = (n + 1 + k) + 1 := by omega
  rw [e, c_outside_there]
  have lc : eLc false [2] (iSeq (eV 0)) (.nm 2) (testsD []) (eCmp .Eq (eV 2) (eLst false [])) [some (lotsD ls), some od, none] M = .ok (.lst (ls.map fun l => .bl l.isEmpty)) M := by
    have q := lc_map (M := M) (vs := [2]) (src := iSeq (eV 0)) (tg := .nm 2) (elt := eCmp .Eq (eV 2) (eLst false [])) (g := []) (δ := [some (lotsD ls), some od, none]) (xs := ls.map D.lst) (f := fun d => match d with | .lst l => .bl l.isEmpty | _ => .non) rfl gd_nil
      (by rw [List.length_map]; have := lines; omega) fun x hx => by
        obtain ⟨l, hl, rfl⟩ := List.mem_map.mp hx
        refine ⟨_, set_nm, ?_⟩
        show (Res.bind _ _) = _
        rw [show eV 2 ((wipeD [some (lotsD ls), some od, none] [2]).set 2 (some (.lst l))) M = .ok (.lst l) M from rfl, rb_ok]
        show optR (cmpD .Eq (.lst l) (.lst []) M) M = _
        rw [eq_empty (hla l hl)]
        rfl
    rw [q, List.map_map]
    rfl
  have an := any_map (M := M) (fun l : List D => l.isEmpty) ls
  by_cases hany : (ls.any fun l => l.isEmpty) = true
  · refine ⟨.non, M, ?_, Up.refl _, ?_, ?_⟩
    · rw [hany] at an
      simp [b_outside_there, startD, sSeq, sIf, sRet, tD, eBi, eL_nil, eL_one, eC, rb_ok, lc, an, truthD, optB_some, end_rt]
    · have : [] ∈ ls := by
        obtain ⟨l, hl, e⟩ := List.any_eq_true.mp hany
        have : l = [] := List.isEmpty_iff.mp e
        rw [← this]; exact hl
      rw [through_empty this]
      rfl
    · have : [] ∈ ls := by
        obtain ⟨l, hl, e⟩ := List.any_eq_true.mp hany
        have : l = [] := List.isEmpty_iff.mp e
        rw [← this]; exact hl
      rw [through_empty this]
      intro p hp
      cases hp
  · have hany : (ls.any fun l => l.isEmpty) = false := Bool.eq_false_iff.mpr hany
    rw [hany] at an
    have g1 : Up M (M ++ [.dct []]) := Up.app
    have memo : Memo ls os n (M ++ [.dct []]) M.length [] := ⟨by simp, List.nodup_nil, fun kv h => by cases h⟩
    have ho' : IxO (M ++ [.dct []]) od os := ⟨g1.seq ho.1, ho.2⟩
    obtain ⟨v, M', kvs', c1, c2, c3, c4, c5⟩ := outside_spec k hok hla hls hn hm n 0 (by omega) (List.range os.length) (M ++ [.dct []]) [] (List.Sublist.refl _) ho' memo
    rw [sel_all] at c4 c5
    have le := len_seq ho.1
    have lo : (osD os).length = os.length := by unfold osD; rw [List.length_map]
    rw [lo] at le
    have tr : eTupRg1 (eBi .len [(false, (eV 1))]) [some (lotsD ls), some od, none] M = .ok (.tup (idsD (List.range os.length))) M := by
      show (((biD .len [od] M)).bind fun x M => match x with
        | .int j => tupRg 0 j M
        | _ => .bad) = _
      rw [le, rb_ok]
      show (if in62 0 && in62 (os.length : Int) && decide ((os.length : Int) - 0 ≤ 16777216) then Res.ok (D.tup (rangeD 0 ((os.length : Int) - 0).toNat)) M else .bad) = _
      have i1 : in62 0 = true := by decide
      have i2 : in62 (os.length : Int) = true := by unfold in62; rw [decide_eq_true (by omega), decide_eq_true (by omega)]; rfl
      rw [i1, i2, decide_eq_true (by omega), Int.sub_zero, Int.toNat_natCast, range_ids]
      rfl
    have cal : eCall (callD cfg (n + 1 + k) "outside_from") (withDfl ["lots", "others", "at", "left", "known"] []) [(false, (eV 0)), (false, (eV 1)), (false, (eC (.int (0)))), (false, (eTupRg1 (eBi .len [(false, (eV 1))]))), (false, eDict0)] [] [] [some (lotsD ls), some od, none] M = .ok v M' := by
      rw [call_pos (xs := [lotsD ls, od, .int ((0 : Nat) : Int), .tup (idsD (List.range os.length)), .ref M.length]) (ys := [lotsD ls, od, .int ((0 : Nat) : Int), .tup (idsD (List.range os.length)), .ref M.length]) (M' := M ++ [.dct []]) ?_ rfl, c1]
      · rfl
      · rw [eL_one, show eV 0 [some (lotsD ls), some od, none] M = .ok (lotsD ls) M from rfl, rb_ok, eL_one, show eV 1 [some (lotsD ls), some od, none] M = .ok od M from rfl, rb_ok, eL_one, show eC (.int 0) [some (lotsD ls), some od, none] M = .ok (.int ((0 : Nat) : Int)) M from rfl, rb_ok, eL_one, tr, rb_ok]
        rfl
    refine ⟨v, M', ?_, ⟨Nat.le_trans g1.len c3.len, fun j h => ?_⟩, c4, fun p hp => ?_⟩
    · simp [b_outside_there, startD, sSeq, sIf, sNx, sRet, tD, eBi, eL_nil, eL_one, eC, rb_ok, lc, an, truthD, optB_some, cal, end_rt]
    · rw [c3.old j (by simp; omega) (by omega)]
      exact g1.old j h
    · obtain ⟨m, a, b⟩ := c5 h0 p hp
      exact ⟨m, Nat.le_trans g1.len a, b⟩
end K78
set_option Elab.async false
set_option linter.all false
set_option maxRecDepth 100000
set_option maxHeartbeats 4000000
/-! A78: first_outside. -/
namespace K78
open PySem Ev
theorem seq_g {M : Mem} {d : D} {xs : List D} (h : seqOf M d = some xs) : ∃ g, seqG M d = some (xs, g) ∧ gdOk g M = true ∧ kindD M d = some "list" ∧ (∀ zs, d ≠ .tup zs) ∧ ∀ z, d ≠ .str z := by
  cases d with
  | lst ys =>
    cases h
    exact ⟨[], rfl, rfl, rfl, fun _ => by simp, fun _ => by simp⟩
  | ref j =>
    have e : lstAt M j = some xs := h
    refine ⟨[(j, xs)], ?_, gd_one e, ?_, fun _ => by simp, fun _ => by simp⟩
    · show (lstAt M j).map _ = _
      rw [e]
      rfl
    · show (match M[j]? with
        | some (.lst _) => some "list"
        | _ => none) = _
      rw [lstAt_some e]
  | _ => cases h
theorem iseq_at {M : Mem} {i : Nat} {od : D} {xs : List D} {g : Gd} {δ : Slots} (e : δ[i]? = some (some od)) (n1 : ∀ xs, od ≠ .tup xs) (n2 : ∀ z, od ≠ .str z) (h : seqG M od = some (xs, g)) : iSeq (eV i) δ M = .ok (xs, g) M := by
  unfold iSeq eV
  rw [e]
  show (match od with
    | .tup xs => Res.ok (xs, []) M
    | .str s => .ok (s.cps.toList.map fun c => .str ⟨#[c]⟩, []) M
    | x => (match seqG M x with
      | some p => .ok p M
      | none => .bad)) = _
  cases od <;> first | exact absurd rfl (n1 _) | exact absurd rfl (n2 _) | (simp only [h])
/-- lots and others over the atoms of t tests -/
structure Wd (t n : Nat) (ls : List (List D)) (os : List (List (List D))) : Prop where
  len : ls.length = n
  lot : ∀ l ∈ ls, l.Sublist (atoms t)
  olen : ∀ o ∈ os, o.length = n
  olot : ∀ o ∈ os, ∀ l ∈ o, l.Sublist (atoms t)
  few : os.length ≤ 15
theorem pa_sub {t : Nat} {l : List D} (h : l.Sublist (atoms t)) : Pa l := fun x hx => by
  obtain ⟨bs, hb, rfl⟩ := List.mem_map.mp (h.subset hx)
  refine ⟨?_, rfl⟩
  show bs.all (Pl 7) = true
  refine List.all_eq_true.mpr fun y hy => ?_
  rcases (atomsB_bits t bs hb).1 y hy with e | e <;> rw [e] <;> rfl
theorem Wd.ok {t n : Nat} {ls : List (List D)} {os : List (List (List D))} (w : Wd t n ls os) : Ok n os where
  len := w.olen
  pa := fun o ho l hl => pa_sub (w.olot o ho l hl)
  few := by have := w.few; omega
theorem gt_len {M : Mem} {a : Nat} (h : a ≤ 400) : cmpD .Gt (.int a) (.int 400) M = some false := by
  rw [gt_int, decide_eq_false (by omega)]
theorem first_spec {t p n K : Nat} (ht : t < 5) (hp : p < 2) (h0 : 0 < n) (hn : n ≤ 12) {ls : List (List D)} {os : List (List (List D))} {od : D} (w : Wd t n ls os) (M : Mem) (ho : seqOf M od = some (osD os)) (hK : n + 8 ≤ K) :
    ∃ v M', callD cfg K "first_outside" [speech t p, lotsD ls, od] M = .ok v M' ∧ Up M M' ∧ Shows M' v (through ls 0 os) ∧ ∀ p, through ls 0 os = some p → ∃ m, M.length ≤ m ∧ v = .ref m := by
  obtain ⟨k, rfl⟩ : ∃ k, K = n + 7 + k + 1 := ⟨K - (n + 8), by omega⟩
  rw [c_first_outside]
  obtain ⟨g, sg, hg, hk, n1, n2⟩ := seq_g ho
  have hlen := w.len
  have i5 : n + 7 + k = (n + 2 + k) + 5 := by omega
  have i4 : n + 7 + k = (n + 3 + k) + 4 := by omega
  have i2 : n + 7 + k = n + 2 + (5 + k) := by omega
  have line := lines
  have tl : (tsOf t).length ≤ sizeLine := by rw [tsOf_len ht]; omega
  have fewo := w.few
  have cs : ∀ δ : Slots, δ[0]? = some (some (speech t p)) → eCall (callD cfg (n + 7 + k) "check_speech") (withDfl ["speech"] []) [(false, (eV 0))] [] [] δ M = .ok .non M := fun δ h => by
    rw [call_pos (xs := [speech t p]) (ys := [speech t p]) (M' := M) (by simp [eL_nil, eL_one, eV, h, rb_ok]) rfl, i5, check_spec _ t p M ht hp]
    rfl
  have ct1 : eCall (callD cfg (n + 7 + k) "is_lots_there") (withDfl ["speech", "value", "least", "most"] []) [(false, (eV 0)), (false, (eV 1)), (false, (eC (.int (1)))), (false, (eC (.int (13))))] [] [] [some (speech t p), some (lotsD ls), some od, none] M = .ok (.bl true) M := by
    rw [call_pos (xs := [speech t p, lotsD ls, .int 1, .int 13]) (ys := [speech t p, lotsD ls, .int 1, .int 13]) (M' := M) rfl rfl, i4]
    have q := lots_spec (n + 3 + k) M (.str "speech") (.lst (psOf p)) (tsOf t) ls 1 13 (fun l hl => sub_lot ht (w.lot l hl)) tl (by omega) (by omega) (by omega)
    have q : callD cfg ((n + 3 + k) + 4) "is_lots_there" [speech t p, lotsD ls, .int 1, .int 13] M = .ok (.bl true) M := q
    rw [q]
    rfl
  have is : isiD M od (.ty "list") = some true := by unfold isiD; rw [hk]; rfl
  have le := len_seq ho
  have lo : (osD os).length = os.length := by unfold osD; rw [List.length_map]
  rw [lo] at le
  have gt := gt_len (M := M) (a := os.length) (by omega)
  have l1 : biD .len [lotsD ls] M = .ok (.int ls.length) M := by
    show Res.ok (D.int ((ls.map D.lst).length : Nat)) M = _
    rw [List.length_map]
  have lc : eLc false [3] (iSeq (eV 2)) (.nm 3) (testsD []) (eCall (callD cfg (n + 7 + k) "is_lots_there") (withDfl ["speech", "value", "least", "most"] []) [(false, (eV 0)), (false, (eV 3)), (false, (eBi .len [(false, (eV 1))])), (false, (eBi .len [(false, (eV 1))]))] [] []) [some (speech t p), some (lotsD ls), some od, none] M = .ok (.lst ((osD os).map fun _ => .bl true)) M := by
    refine lc_map (iseq_at rfl n1 n2 sg) hg (by rw [lo]; omega) fun x hx => ?_
    obtain ⟨o, ho, rfl⟩ := List.mem_map.mp hx
    refine ⟨[some (speech t p), some (lotsD ls), some od, some (lotsD o)], rfl, ?_⟩
    have q := lots_spec (n + 3 + k) M (.str "speech") (.lst (psOf p)) (tsOf t) o ls.length ls.length (fun l hl => sub_lot ht (w.olot o ho l hl)) tl (by rw [w.olen o ho, hlen]; omega) (by rw [w.olen o ho, hlen]; omega) (by rw [w.olen o ho]; omega)
    have q : callD cfg ((n + 3 + k) + 4) "is_lots_there" [speech t p, lotsD o, .int ls.length, .int ls.length] M = .ok (.bl true) M := q
    rw [call_pos (xs := [speech t p, lotsD o, .int ls.length, .int ls.length]) (ys := [speech t p, lotsD o, .int ls.length, .int ls.length]) (M' := M) ?_ rfl, i4, q]
    · rfl
    · have e1 : eBi .len [(false, (eV 1))] [some (speech t p), some (lotsD ls), some od, some (lotsD o)] M = biD .len [lotsD ls] M := rfl
      rw [eL_one, show eV 0 [some (speech t p), some (lotsD ls), some od, some (lotsD o)] M = .ok (speech t p) M from rfl, rb_ok, eL_one, show eV 3 [some (speech t p), some (lotsD ls), some od, some (lotsD o)] M = .ok (lotsD o) M from rfl, rb_ok, eL_one, e1, l1, rb_ok, eL_one, e1, l1, rb_ok]
      rfl
  obtain ⟨v, M', c1, c2, c3, c4⟩ := there_spec (5 + k) w.ok (fun l hl => pa_sub (w.lot l hl)) hlen h0 hn w.few M ⟨ho, n2⟩
  have cal : eCall (callD cfg (n + 7 + k) "outside_there") (withDfl ["lots", "others"] []) [(false, (eV 1)), (false, (eV 2))] [] [] [some (speech t p), some (lotsD ls), some od, none] M = .ok v M' := by
    rw [call_pos (xs := [lotsD ls, od]) (ys := [lotsD ls, od]) (M' := M) rfl rfl, i2, c1]
    rfl
  refine ⟨v, M', ?_, c2, c3, c4⟩
  simp only [b_first_outside, startD, List.length_cons, List.length_nil, if_pos, List.map_cons, List.map_nil, List.cons_append, List.nil_append, List.replicate]
  have ls0 : lotsD ls = lotsD ls := rfl
  simp [sSeq, sDrop, sIf, sNx, sRet, tNot, tBool, tOr, tD, tCmp, eBi, eL_nil, eL_one, eV, eC, rb_ok, cs, ct1, bi_isi is, le, gt, lc, all_map_true, truthD, optB_some, cal, end_rt]
end K78
set_option Elab.async false
set_option linter.all false
set_option maxRecDepth 100000
set_option maxHeartbeats 4000000
/-! B78: the plain law: what `through` finds. -/
namespace K78
open PySem Ev
theorem first_congr {f g : D → Option (List D)} : ∀ {xs : List D}, (∀ x ∈ xs, f x = g x) → firstSome f xs = firstSome g xs
  | [], _ => rfl
  | x :: xs, h => by
    unfold firstSome
    rw [h x (by simp), first_congr fun y hy => h y (List.mem_cons_of_mem _ hy)]
theorem first_map {f : D → Option (List D)} {F : List D → List D} : ∀ {xs : List D}, (firstSome f xs).map F = firstSome (fun x => (f x).map F) xs
  | [] => rfl
  | x :: xs => by
    unfold firstSome
    cases h : f x with
    | none => exact first_map
    | some r => rfl
/-- one answer for all -/
theorem first_const {o : Option (List D)} {a : D} {r : List D} : firstSome (fun x => o.map (x :: ·)) (a :: r) = o.map (a :: ·) := by
  cases o with
  | none => exact first_none fun _ => rfl
  | some q => rfl
/-- through, with the others cut off at the place -/
def thr : List (List D) → List (List (List D)) → Option (List D)
  | [], os => if os.isEmpty then some [] else none
  | l :: ls, os => firstSome (fun x => (thr ls ((os.filter fun o => hasA x (o.headD [])).map List.tail)).map (x :: ·)) l
theorem through_thr : ∀ (ls : List (List D)) (i : Nat) (os : List (List (List D))), through ls i os = thr ls (os.map (List.drop i))
  | [], i, os => by
    unfold through thr
    cases os <;> rfl
  | l :: ls, i, os => by
    unfold through thr
    refine first_congr fun x _ => ?_
    rw [through_thr ls (i + 1)]
    congr 2
    unfold keepA
    rw [List.filter_map, List.map_map]
    have e1 : (List.tail ∘ List.drop i : List (List D) → List (List D)) = List.drop (i + 1) := by
      funext o
      show (o.drop i).tail = o.drop (i + 1)
      rw [List.tail_drop]
    rw [e1]
    congr 1
    refine List.filter_congr fun o _ => ?_
    show hasA x (o.getD i []) = hasA x ((o.drop i).headD [])
    congr 1
    rw [List.headD_eq_head?_getD, List.head?_drop, List.getD_eq_getElem?_getD]
theorem through_zero (ls : List (List D)) (os : List (List (List D))) : through ls 0 os = thr ls os := by
  rw [through_thr]
  congr 1
  exact (List.map_congr_left fun o _ => rfl).trans (List.map_id os)
/-- a place that all have whole -/
theorem thr_col {A : List D} {a0 : D} {A' : List D} (hA : A = a0 :: A') (ha : ∀ x ∈ A, hasA x A = true) {ls : List (List D)} {os : List (List (List D))} (h : ∀ o ∈ os, o.headD [] = A) : thr (A :: ls) os = (thr ls (os.map List.tail)).map (a0 :: ·) := by
  have e : thr (A :: ls) os = firstSome (fun x => (thr ls (os.map List.tail)).map (x :: ·)) A := by
    show firstSome (fun x => (thr ls ((os.filter fun o => hasA x (o.headD [])).map List.tail)).map (x :: ·)) A = _
    refine first_congr fun x hx => ?_
    have : (os.filter fun o => hasA x (o.headD [])) = os := List.filter_eq_self.mpr fun o ho => by rw [h o ho]; exact ha x hx
    rw [this]
  rw [e, hA]
  exact first_const
theorem thr_reps {A : List D} {a0 : D} {A' : List D} (hA : A = a0 :: A') (ha : ∀ x ∈ A, hasA x A = true) : ∀ (m : Nat) (os : List (List (List D))), (∀ o ∈ os, o = List.replicate m A) → thr (List.replicate m A) os = if os.isEmpty then some (List.replicate m a0) else none
  | 0, os, h => rfl
  | m + 1, os, h => by
    rw [List.replicate_succ, thr_col hA ha fun o ho => by rw [h o ho]; rfl]
    rw [thr_reps hA ha m _ fun o ho => by
      obtain ⟨q, hq, rfl⟩ := List.mem_map.mp ho
      rw [h q hq]
      rfl]
    cases os <;> rfl
/-- a way through two places, spread over the wide lots -/
def spread (a0 : D) (m : Nat) : List D → List D
  | [a, b] => a0 :: a :: a0 :: a0 :: b :: List.replicate m a0
  | r => r
theorem thr_wide {A : List D} {a0 : D} {A' : List D} (hA : A = a0 :: A') (ha : ∀ x ∈ A, hasA x A = true) (m : Nat) (l0 ln : List D) (two : List (List D × List D)) :
    thr (A :: l0 :: A :: A :: ln :: List.replicate m A) (two.map fun o => A :: o.1 :: A :: A :: o.2 :: List.replicate m A) = (thr [l0, ln] (two.map fun o => [o.1, o.2])).map (spread a0 m) := by
  rw [thr_col hA ha fun o ho => by obtain ⟨q, hq, rfl⟩ := List.mem_map.mp ho; rfl]
  rw [List.map_map]
  show (firstSome (fun x => (thr (A :: A :: ln :: List.replicate m A) _).map (x :: ·)) l0).map (a0 :: ·) = (firstSome (fun x => (thr [ln] _).map (x :: ·)) l0).map (spread a0 m)
  rw [first_map, first_map]
  refine first_congr fun x hx => ?_
  rw [List.filter_map, List.filter_map, List.map_map, List.map_map]
  generalize hB : two.filter ((fun o => hasA x (o.headD [])) ∘ fun o : List D × List D => [o.1, o.2]) = B
  have hB' : two.filter ((fun o => hasA x (o.headD [])) ∘ (List.tail ∘ fun o : List D × List D => A :: o.1 :: A :: A :: o.2 :: List.replicate m A)) = B := hB
  rw [hB']
  rw [thr_col hA ha fun o ho => by obtain ⟨q, hq, rfl⟩ := List.mem_map.mp ho; rfl]
  rw [thr_col hA ha fun o ho => by obtain ⟨o', ho', rfl⟩ := List.mem_map.mp ho; obtain ⟨q, hq, rfl⟩ := List.mem_map.mp ho'; rfl]
  rw [List.map_map, List.map_map]
  show (((firstSome (fun y => (thr (List.replicate m A) _).map (y :: ·)) ln).map (a0 :: ·)).map (a0 :: ·) |>.map (x :: ·)).map (a0 :: ·) = ((firstSome (fun y => (thr [] _).map (y :: ·)) ln).map (x :: ·)).map (spread a0 m)
  rw [first_map, first_map, first_map, first_map, first_map, first_map]
  refine first_congr fun y hy => ?_
  rw [List.filter_map, List.filter_map, List.map_map, List.map_map]
  generalize hC : B.filter ((fun o => hasA y (o.headD [])) ∘ (List.tail ∘ fun o : List D × List D => [o.1, o.2])) = C
  have hC' : B.filter ((fun o => hasA y (o.headD [])) ∘ ((List.tail ∘ List.tail) ∘ List.tail ∘ List.tail ∘ fun o : List D × List D => A :: o.1 :: A :: A :: o.2 :: List.replicate m A)) = C := hC
  rw [hC']
  rw [thr_reps hA ha m _ fun o ho => by obtain ⟨q, hq, rfl⟩ := List.mem_map.mp ho; rfl]
  cases C <;> rfl
/-- a way through is outside all others -/
theorem through_out : ∀ (ls : List (List D)) (i : Nat) (os : List (List (List D))) (p : List D), through ls i os = some p → p.length = ls.length ∧ (∀ x ∈ p, ∃ l ∈ ls, x ∈ l) ∧ ∀ o ∈ os, ∃ j x, p[j]? = some x ∧ hasA x (o.getD (i + j) []) = false := by
  have key : ∀ {f : D → Option (List D)} {xs : List D} {p : List D}, firstSome (fun x => (f x).map (x :: ·)) xs = some p → ∃ x q, x ∈ xs ∧ f x = some q ∧ p = x :: q := by
    intro f xs
    induction xs with
    | nil => intro p h; cases h
    | cons x xs ih =>
      intro p h
      unfold firstSome at h
      cases hf : f x with
      | some q =>
        rw [hf] at h
        cases h
        exact ⟨x, q, by simp, hf, rfl⟩
      | none =>
        rw [hf] at h
        obtain ⟨y, q, h1, h2, h3⟩ := ih h
        exact ⟨y, q, List.mem_cons_of_mem _ h1, h2, h3⟩
  intro ls
  induction ls with
  | nil =>
    intro i os p h
    unfold through at h
    split at h
    · rename_i he
      cases h
      have : os = [] := List.isEmpty_iff.mp he
      subst this
      exact ⟨rfl, (fun x h => by cases h), fun o h => by cases h⟩
    · cases h
  | cons l ls ih =>
    intro i os p h
    obtain ⟨x, q, h1, h2, rfl⟩ := key (show firstSome (fun x => (through ls (i + 1) (keepA x i os)).map (x :: ·)) l = some p from h)
    obtain ⟨g1, g2, g3⟩ := ih _ _ _ h2
    refine ⟨by simp [g1], fun y hy => ?_, fun o ho => ?_⟩
    · rcases List.mem_cons.mp hy with e | e
      · exact ⟨l, by simp, by rw [e]; exact h1⟩
      · obtain ⟨l', a, b⟩ := g2 y e
        exact ⟨l', List.mem_cons_of_mem _ a, b⟩
    · cases hh : hasA x (o.getD i []) with
      | false => exact ⟨0, x, rfl, hh⟩
      | true =>
        obtain ⟨j, y, a, b⟩ := g3 o (List.mem_filter.mpr ⟨ho, hh⟩)
        refine ⟨j + 1, y, a, ?_⟩
        have e : i + (j + 1) = i + 1 + j := by omega
        rw [e]
        exact b
/-- no others: the first of each -/
theorem through_free : ∀ (ls : List (List D)) (i : Nat) (z : D), through ls i [] = if ls.any (fun l => l.isEmpty) then none else some (ls.map fun l => l.headD z)
  | [], i, z => rfl
  | [] :: ls, i, z => rfl
  | (a :: l) :: ls, i, z => by
    have ih := through_free ls (i + 1) z
    show firstSome (fun x => (through ls (i + 1) []).map (x :: ·)) (a :: l) = _
    rw [first_const, ih]
    show _ = if (false || ls.any fun l => l.isEmpty) = true then none else _
    rw [Bool.false_or]
    split <;> rfl
/-- one of the others has all -/
theorem through_in : ∀ (ls : List (List D)) (i : Nat) (os : List (List (List D))) (o : List (List D)), o ∈ os → (∀ j l, ls[j]? = some l → ∀ x ∈ l, hasA x (o.getD (i + j) []) = true) → through ls i os = none
  | [], i, os, o, h, _ => by
    unfold through
    cases os with
    | nil => cases h
    | cons _ _ => rfl
  | l :: ls, i, os, o, h, hx => by
    have : firstSome (fun x => (through ls (i + 1) (keepA x i os)).map (x :: ·)) l = firstSome (fun _ => none) l := by
      refine first_congr fun x hm => ?_
      rw [through_in ls (i + 1) (keepA x i os) o (List.mem_filter.mpr ⟨h, hx 0 l rfl x hm⟩) fun j l' hj y hy => by
        have := hx (j + 1) l' hj y hy
        have e : i + 1 + j = i + (j + 1) := by omega
        rw [e]
        exact this]
      rfl
    show firstSome (fun x => (through ls (i + 1) (keepA x i os)).map (x :: ·)) l = none
    rw [this]
    exact first_none fun _ => rfl
end K78
set_option Elab.async false
set_option linter.all false
set_option maxRecDepth 100000
set_option maxHeartbeats 4000000
/-! C78: repr of what is handed in. -/
namespace K78
open PySem Ev
theorem sok_app {a b : Str} (h1 : PyData.strOk a = true) (h2 : PyData.strOk b = true) : PyData.strOk (a ++ b) = true := by
  show (a.cps ++ b.cps).all _ = true
  rw [Array.all_append]
  have h1 : a.cps.all (· < 0x110000) = true := h1
  have h2 : b.cps.all (· < 0x110000) = true := h2
  rw [h1, h2]
  rfl
theorem sok_from : ∀ (ts : List Str) (k : Nat) (acc : Str), PyData.strOk acc = true → (∀ t ∈ ts, PyData.strOk t = true) → PyData.strOk (textFrom k acc ts) = true
  | [], k, acc, h, _ => h
  | t :: ts, k, acc, h, ht => by
    unfold textFrom
    refine sok_from ts (k + 1) _ ?_ fun u hu => ht u (List.mem_cons_of_mem _ hu)
    refine sok_app (sok_app h ?_) (ht t (by simp))
    split <;> decide +kernel
theorem sok_join : ∀ (ts : List Str), (∀ t ∈ ts, PyData.strOk t = true) → PyData.strOk (Str.join ", " ts) = true
  | [], _ => by decide +kernel
  | [t], h => h t (by simp)
  | t :: u :: ts, h => by
    unfold Str.join
    exact sok_app (sok_app (h t (by simp)) (by decide +kernel)) (sok_join (u :: ts) fun v hv => h v (List.mem_cons_of_mem _ hv))
mutual
def Nice : PyData → Bool
  | .int i => decide (i = 0) || decide (i = 1)
  | .str s => PyData.strOk s && PyData.strOk (reprText s)
  | .list xs => NiceAll xs
  | .tuple xs => NiceAll xs
  | _ => false
def NiceAll : List PyData → Bool
  | [] => true
  | x :: xs => Nice x && NiceAll xs
end
structure Shw (p : PyData) : Prop where
  ok : PyData.strOk p.shown = true
  able : p.showable = true
  short : p.intsShort 13 = true
  lay : p.canLay0 = true
structure ShwAll (ps : List PyData) : Prop where
  ok : ∀ t ∈ PyData.shownAll ps, PyData.strOk t = true
  able : PyData.showableAll ps = true
  short : PyData.intsShortAll 13 ps = true
  lay : PyData.canLayAll0 ps = true
theorem shw0 : Shw (.int 0) := ⟨by decide +kernel, by decide +kernel, by decide +kernel, by decide +kernel⟩
theorem shw1 : Shw (.int 1) := ⟨by decide +kernel, by decide +kernel, by decide +kernel, by decide +kernel⟩
mutual
theorem nice_shown : ∀ p : PyData, Nice p = true → Shw p
  | .none, h => by cases h
  | .bool _, h => by cases h
  | .dict _, h => by cases h
  | .int i, h => by
    have h : (decide (i = 0) || decide (i = 1)) = true := h
    have h : i = 0 ∨ i = 1 := by simpa using h
    rcases h with rfl | rfl
    · exact shw0
    · exact shw1
  | .str s, h => by
    have h : (PyData.strOk s && PyData.strOk (reprText s)) = true := h
    rw [Bool.and_eq_true] at h
    exact ⟨h.2, rfl, rfl, h.1⟩
  | .list xs, h => by
    obtain ⟨h1, h2, h3, h4⟩ := nice_all xs h
    refine ⟨?_, h2, h3, h4⟩
    show PyData.strOk (textFrom 0 "[" (PyData.shownAll xs) ++ "]") = true
    exact sok_app (sok_from _ _ _ (by decide +kernel) h1) (by decide +kernel)
  | .tuple xs, h => by
    obtain ⟨h1, h2, h3, h4⟩ := nice_all xs h
    refine ⟨?_, h2, h3, h4⟩
    show PyData.strOk (("(" : Str) ++ Str.join ", " (PyData.shownAll xs) ++ (if (PyData.shownAll xs).length == 1 then ",)" else ")" : String)) = true
    refine sok_app (sok_app (by decide +kernel) (sok_join _ h1)) ?_
    split <;> decide +kernel
theorem nice_all : ∀ ps : List PyData, NiceAll ps = true → ShwAll ps
  | [], _ => ⟨fun t h => (by cases h), rfl, rfl, rfl⟩
  | p :: ps, h => by
    have h : (Nice p && NiceAll ps) = true := h
    rw [Bool.and_eq_true] at h
    obtain ⟨a1, a2, a3, a4⟩ := nice_shown p h.1
    obtain ⟨b1, b2, b3, b4⟩ := nice_all ps h.2
    refine ⟨fun t ht => ?_, ?_, ?_, ?_⟩
    · rcases List.mem_cons.mp (show t ∈ p.shown :: PyData.shownAll ps from ht) with e | e
      · rw [e]; exact a1
      · exact b1 t e
    · show (p.showable && PyData.showableAll ps) = true
      rw [a2, b2]; rfl
    · show (p.intsShort 13 && PyData.intsShortAll 13 ps) = true
      rw [a3, b3]; rfl
    · show (p.canLay0 && PyData.canLayAll0 ps) = true
      rw [a4, b4]; rfl
end
theorem nice_pofs : ∀ {xs : List D}, (∀ x ∈ xs, Nice (pOf x) = true) → NiceAll (pOfs xs) = true
  | [], _ => rfl
  | x :: xs, h => by
    show (Nice (pOf x) && NiceAll (pOfs xs)) = true
    rw [h x (by simp), nice_pofs fun y hy => h y (List.mem_cons_of_mem _ hy)]
    rfl
theorem weight_le {w : Nat} : ∀ {xs : List D}, (∀ x ∈ xs, (pOf x).weight ≤ w) → PyData.weightAll (pOfs xs) ≤ xs.length * (w + 1)
  | [], _ => Nat.zero_le _
  | x :: xs, h => by
    have a := h x (by simp)
    have b := weight_le (w := w) (xs := xs) fun y hy => h y (List.mem_cons_of_mem _ hy)
    show (pOf x).weight + 1 + PyData.weightAll (pOfs xs) ≤ (xs.length + 1) * (w + 1)
    rw [Nat.add_mul]
    omega
theorem nice_atom {t : Nat} {x : D} (ht : t < 5) (h : x ∈ atoms t) : Nice (pOf x) = true ∧ (pOf x).weight ≤ 8 := by
  obtain ⟨bs, hb, rfl⟩ := List.mem_map.mp h
  obtain ⟨h1, h2⟩ := atomsB_bits t bs hb
  constructor
  · show NiceAll (pOfs bs) = true
    exact nice_pofs fun y hy => by rcases h1 y hy with e | e <;> rw [e] <;> rfl
  · have q := weight_le (w := 1) (xs := bs) fun y hy => by rcases h1 y hy with e | e <;> rw [e] <;> decide +kernel
    have e : (pOf (.tup bs)).weight = PyData.weightAll (pOfs bs) := rfl
    rw [e]
    omega
theorem nice_lot {t : Nat} {l : List D} (ht : t < 5) (h : l.Sublist (atoms t)) : Nice (pOf (.lst l)) = true ∧ (pOf (.lst l)).weight ≤ 144 := by
  constructor
  · show NiceAll (pOfs l) = true
    exact nice_pofs fun y hy => (nice_atom ht (h.subset hy)).1
  · have q := weight_le (w := 8) (xs := l) fun y hy => (nice_atom ht (h.subset hy)).2
    have e : (pOf (.lst l)).weight = PyData.weightAll (pOfs l) := rfl
    have a := h.length_le
    have b := atoms_len ht
    rw [e]
    omega
theorem nice_lots {t : Nat} {o : List (List D)} (ht : t < 5) (hn : o.length ≤ 12) (h : ∀ l ∈ o, l.Sublist (atoms t)) : Nice (pOf (lotsD o)) = true ∧ (pOf (lotsD o)).weight ≤ 1740 := by
  constructor
  · show NiceAll (pOfs (o.map D.lst)) = true
    exact nice_pofs fun y hy => by
      obtain ⟨l, hl, rfl⟩ := List.mem_map.mp hy
      exact (nice_lot ht (h l hl)).1
  · have q := weight_le (w := 144) (xs := o.map D.lst) fun y hy => by
      obtain ⟨l, hl, rfl⟩ := List.mem_map.mp hy
      exact (nice_lot ht (h l hl)).2
    have e : (pOf (lotsD o)).weight = PyData.weightAll (pOfs (o.map D.lst)) := rfl
    rw [List.length_map] at q
    rw [e]
    omega
theorem nice_speech {t p : Nat} (ht : t < 5) (hp : p < 2) : Nice (pOf (speech t p)) = true ∧ (pOf (speech t p)).weight ≤ 40 ∧ Pl 8 (speech t p) = true := by
  match t, p, ht, hp with
  | 0, 0, _, _ => decide +kernel
  | 0, 1, _, _ => decide +kernel
  | 1, 0, _, _ => decide +kernel
  | 1, 1, _, _ => decide +kernel
  | 2, 0, _, _ => decide +kernel
  | 2, 1, _, _ => decide +kernel
  | 3, 0, _, _ => decide +kernel
  | 3, 1, _, _ => decide +kernel
  | 4, 0, _, _ => decide +kernel
  | 4, 1, _, _ => decide +kernel
  | t + 5, _, h, _ => exact absurd h (by omega)
  | _, p + 2, _, h => exact absurd h (by omega)
theorem oth_seq {M : Mem} {n : Nat} {od : D} {os : List (List (List D))} (h : Ok n os) (e : seqOf M od = some (osD os)) : Oth M od os := by
  cases od with
  | lst ys =>
    have e : ys = osD os := by simpa [seqOf] using e
    subst e
    exact oth_lst h
  | ref k => exact oth_ref h e
  | _ => cases e
def repP (t p : Nat) (ls : List (List D)) (os : List (List (List D))) : PyData := .list [pOf (speech t p), pOf (lotsD ls), .list (pOfs (osD os))]
theorem pl_lots {t : Nat} {o : List (List D)} (h : ∀ l ∈ o, l.Sublist (atoms t)) : Pl 10 (lotsD o) = true := by
  show (o.map D.lst).all (Pl 9) = true
  refine List.all_eq_true.mpr fun y hy => ?_
  obtain ⟨l, hl, rfl⟩ := List.mem_map.mp hy
  exact pl_lot (pa_sub (h l hl))
theorem repr_spec {t p n : Nat} {ls : List (List D)} {os : List (List (List D))} (ht : t < 5) (hp : p < 2) (hn : n ≤ 12) (w : Wd t n ls os) {M : Mem} {od : D} (ho : seqOf M od = some (osD os)) :
    reprD M (.lst [speech t p, lotsD ls, od]) = some (repP t p ls os).shown ∧ Pl 1 (.str (repP t p ls os).shown) = true := by
  obtain ⟨s1, s2, s3⟩ := nice_speech ht hp
  obtain ⟨l1, l2⟩ := nice_lots ht (by rw [w.len]; exact hn) w.lot
  have o1 : NiceAll (pOfs (osD os)) = true := nice_pofs fun y hy => by
    obtain ⟨o, ho, rfl⟩ := List.mem_map.mp hy
    exact (nice_lots ht (by rw [w.olen o ho]; exact hn) (w.olot o ho)).1
  have o2 : PyData.weightAll (pOfs (osD os)) ≤ 15 * 1741 := by
    have q := weight_le (w := 1740) (xs := osD os) fun y hy => by
      obtain ⟨o, ho, rfl⟩ := List.mem_map.mp hy
      exact (nice_lots ht (by rw [w.olen o ho]; exact hn) (w.olot o ho)).2
    have e : (osD os).length = os.length := by unfold osD; rw [List.length_map]
    rw [e] at q
    have := w.few
    omega
  obtain ⟨h, hh, pd⟩ := (oth_seq w.ok ho).pd
  have p1 := pd_of (M := M) 8 _ s3
  have p2 := pd_of (M := M) 10 _ (pl_lots w.lot)
  have tp : toP M 70 (.lst [speech t p, lotsD ls, od]) = some (repP t p ls os) := by
    show (mapO (toP M 69) [speech t p, lotsD ls, od]).map PyData.list = _
    have a1 := p1.1 69 (by omega)
    have a2 := p2.1 69 (by omega)
    have a3 := pd.1 69 (by omega)
    simp only [mapO, a1, a2, a3]
    rfl
  have nice : Nice (repP t p ls os) = true := by
    show (Nice (pOf (speech t p)) && (Nice (pOf (lotsD ls)) && (NiceAll (pOfs (osD os)) && true))) = true
    rw [s1, l1, o1]
    rfl
  obtain ⟨q1, q2, q3, q4⟩ := nice_shown _ nice
  have dep : (repP t p ls os).depth ≤ 64 := by
    show (max (pOf (speech t p)).depth (max (pOf (lotsD ls)).depth (max (PyData.list (pOfs (osD os))).depth 0))) + 1 ≤ 64
    have d1 := p1.2.2
    have d2 := p2.2.2
    have d3 := pd.2.2
    omega
  have wt : (repP t p ls os).weight ≤ 2 ^ 20 := by
    show (pOf (speech t p)).weight + 1 + ((pOf (lotsD ls)).weight + 1 + (PyData.weightAll (pOfs (osD os)) + 1 + 0)) ≤ 2 ^ 20
    omega
  have lay : PyData.layable0 (repP t p ls os) = true := by
    unfold PyData.layable0
    rw [q4, decide_eq_true dep, decide_eq_true wt]
    rfl
  have sh := PyProof.Rows.shown_le13 lay q3
  have hd := PyData.hasDict_of_layable lay
  have sz : (repP t p ls os).shown.length ≤ sizeLine := Nat.le_trans sh (by decide)
  constructor
  · unfold reprD
    rw [tp]
    simp only [q2, hd, decide_eq_true dep, decide_eq_true sz]
    rfl
  · exact q1
end K78
set_option Elab.async false
set_option linter.all false
set_option maxRecDepth 100000
set_option maxHeartbeats 4000000
/-! D78: what is told, held against what is due; is_outside. -/
namespace K78
open PySem Ev
/-- what was told reads as what is due -/
theorem same_shows (k : Nat) {t : Nat} (ht : t < 5) {M : Mem} {v : D} {r : Option (List D)} (hs : Shows M v r) (hl : ∀ p, r = some p → p.length ≤ 400 ∧ ∀ x ∈ p, x ∈ atoms t) : callD cfg (k + 3) "_law_same" [v, toD [] r] M = .ok (.bl true) M := by
  cases r with
  | none =>
    have e : v = .non := hs
    subst e
    exact same_non (k + 2) M
  | some p =>
    obtain ⟨h1, h2⟩ := hl p rfl
    have sq : seqOf M v = some p := hs
    obtain ⟨g, sg, hg, hk, n1, n2⟩ := seq_g sq
    have line := lines
    exact same_path k M v p g hk sg hg (len_seq sq) n1 (by omega) fun x hx => by
      obtain ⟨bs, hb, rfl⟩ := List.mem_map.mp (h2 x hx)
      obtain ⟨h3, h4⟩ := atomsB_bits t bs hb
      exact ⟨bs, rfl, h3, by omega⟩
theorem same_two (k : Nat) {M : Mem} {a b c : D} (h1 : callD cfg k "_law_same" [a, c] M = .ok (.bl true) M) (h2 : callD cfg k "_law_same" [b, c] M = .ok (.bl true) M) : callD cfg (k + 1) "_law_same" [.lst [a, b], .lst [c, c]] M = .ok (.bl true) M :=
  same_lst k M (.lst [a, b]) [a, b] [c, c] [] rfl rfl rfl rfl (fun _ => by simp) rfl (show 2 ≤ sizeLine by decide) fun x y hm => by
    have hm : D.tup [x, y] ∈ [D.tup [a, c], .tup [b, c]] := hm
    rcases List.mem_cons.mp hm with e | e
    · cases e; exact h1
    · have e : D.tup [x, y] = .tup [b, c] := by simpa using e
      cases e; exact h2
/-- x of ys, by eqv -/
theorem has_mem {x : D} {ys : List D} (hp : Pl 8 x = true) (h : x ∈ ys) : hasA x ys = true := by
  have e := eqv_self (pOf x) (pd_of (M := []) 8 x hp).2.1
  unfold hasA
  induction ys with
  | nil => cases h
  | cons y ys ih =>
    show (PyData.eqv (pOf y) (pOf x) || (pOfs ys).any fun z => PyData.eqv z (pOf x)) = true
    rcases List.mem_cons.mp h with q | q
    · rw [← q, e]; rfl
    · rw [ih q, Bool.or_true]
/-! ### is_outside -/
theorem enum_len : ∀ (i : Int) (xs : List D), (enumD i xs).length = xs.length
  | _, [] => rfl
  | i, x :: xs => by
    show (enumD (i + 1) xs).length + 1 = xs.length + 1
    rw [enum_len]
theorem enum_mem : ∀ {i : Nat} {xs : List D} {d : D}, d ∈ enumD (i : Int) xs → ∃ j x, xs[j]? = some x ∧ d = .tup [.int ((i + j : Nat) : Int), x]
  | i, [], d, h => by cases h
  | i, x :: xs, d, h => by
    rcases List.mem_cons.mp (show d ∈ D.tup [.int i, x] :: enumD ((i : Int) + 1) xs from h) with e | e
    · exact ⟨0, x, rfl, e⟩
    · have e : d ∈ enumD ((i + 1 : Nat) : Int) xs := e
      obtain ⟨j, y, h1, h2⟩ := enum_mem e
      refine ⟨j + 1, y, h1, ?_⟩
      rw [h2]
      have : i + 1 + j = i + (j + 1) := by omega
      rw [this]
theorem enum_get : ∀ {i : Nat} {xs : List D} {j : Nat} {x : D}, xs[j]? = some x → D.tup [.int ((i + j : Nat) : Int), x] ∈ enumD (i : Int) xs
  | i, [], j, x, h => by cases h
  | i, y :: xs, 0, x, h => by
    have h : y = x := by simpa using h
    subst h
    exact List.mem_cons_self
  | i, y :: xs, j + 1, x, h => by
    have q := enum_get (i := i + 1) (xs := xs) (j := j) (x := x) h
    have e : i + 1 + j = i + (j + 1) := by omega
    rw [e] at q
    exact List.mem_cons_of_mem _ q
theorem eq_nil {M : Mem} {xs : List D} {h : Nat} (hh : h ≤ 60) (hp : xs.all (Pl h) = true) : cmpD .Eq (.lst xs) (.lst []) M = some xs.isEmpty := by
  have e : cmpD .Eq (.lst xs) (.lst []) M = eqD (.lst xs) (.lst []) M := rfl
  rw [e, eqD_pd (h := h + 1) (h' := 2) (pd_of (h + 1) (.lst xs) hp) (pd_of 2 (.lst []) rfl) (by omega) (by omega)]
  cases xs <;> rfl
def placeOf : D → D
  | .tup [.int j, _] => .int j
  | _ => .non
def missOf (o : List (List D)) : D → Bool
  | .tup [.int j, x] => !hasA x (o.getD j.toNat [])
  | _ => false
theorem inner_spec {t n : Nat} {M : Mem} {v od : D} {p : List D} {o : List (List D)} (hv : seqOf M v = some p) (hp : ∀ x ∈ p, x ∈ atoms t) (hl : p.length = n) (hn : n ≤ 12) (ho : o.length = n) (hol : ∀ l ∈ o, l.Sublist (atoms t)) :
    eLc false [3, 4] (iEnum (eV 0)) (.tp [.nm 3, .nm 4]) (testsD [(tCmp .NotIn (eV 4) (eIx (eV 2) (eV 3)))]) (eV 3) [some v, some od, some (lotsD o), none, none] M = .ok (.lst (((enumD 0 p).filter (missOf o)).map placeOf)) M := by
  obtain ⟨g, sg, hg, hk, n1, n2⟩ := seq_g hv
  have line := lines
  refine lc_filter (src := iEnum (eV 0)) (xs := enumD 0 p) ?_ hg (by rw [enum_len]; omega) fun d hd => ?_
  · show (match seqG M v with
      | some (xs, g) => Res.ok (enumD 0 xs, g) M
      | none => .bad) = _
    rw [sg]
  · obtain ⟨j, x, h1, rfl⟩ := enum_mem (i := 0) hd
    rw [Nat.zero_add]
    refine ⟨[some v, some od, some (lotsD o), some (.int (j : Int)), some x], rfl, ?_, fun _ => rfl⟩
    have hj : j < p.length := (List.getElem?_eq_some_iff.mp h1).1
    have hx : x ∈ p := List.mem_of_getElem? h1
    have hjo : j < o.length := by omega
    have px : Pl 8 x = true ∧ flatD x = false := pa_sub (List.Sublist.refl (atoms t)) x (hp x hx)
    have x1 : ixD (lotsD o) (.int (j : Int)) M = .ok (.lst o[j]) M := by
      have e1 : L2.atI (o.map D.lst) (j : Int) = some (.lst o[j]) := by
        rw [atI_nat, List.getElem?_map, List.getElem?_eq_getElem hjo]
        rfl
      show (match L2.atI (o.map D.lst) (j : Int) with | some v => Res.ok v M | none => .bad) = _
      rw [e1]
    have x2 := in_spec (M := M) px.1 px.2 (pa_sub (hol o[j] (List.getElem_mem hjo)))
    have x3 : cmpD .NotIn x (.lst o[j]) M = some (!hasA x o[j]) := by
      have x2 : inD x (.lst o[j]) M = some (hasA x o[j]) := x2
      show (inD x (.lst o[j]) M).map (!·) = _
      rw [x2]
      rfl
    show (((Res.ok (lotsD o) M).bind fun a M => (Res.ok (.int (j : Int)) M).bind fun b M => ixD a b M).bind fun y M => optB (cmpD .NotIn x y M) M) = _
    rw [rb_ok, rb_ok, x1, rb_ok, x3]
    show Res.ok (!hasA x o[j]) M = Res.ok (!hasA x (o.getD ((j : Int)).toNat [])) M
    rw [Int.toNat_natCast, List.getD_eq_getElem?_getD, List.getElem?_eq_getElem hjo]
    rfl
theorem is_outside_spec (k : Nat) {t n : Nat} {M : Mem} {v od : D} {p : List D} {os : List (List (List D))} (hv : seqOf M v = some p) (hp : ∀ x ∈ p, x ∈ atoms t) (hl : p.length = n) (hn : n ≤ 12) (holen : ∀ o ∈ os, o.length = n) (holot : ∀ o ∈ os, ∀ l ∈ o, l.Sublist (atoms t)) (hfew : os.length ≤ 15)
    (ho : seqOf M od = some (osD os)) (hout : ∀ o ∈ os, ∃ j x, p[j]? = some x ∧ hasA x (o.getD j []) = false) : callD cfg (k + 1) "_law_is_outside" [v, od] M = .ok (.bl true) M := by
  rw [c_x_law_is_outside]
  obtain ⟨g, sg, hg, hk, n1, n2⟩ := seq_g ho
  have line := lines
  have lo : (osD os).length = os.length := by unfold osD; rw [List.length_map]
  have lc : eLc false [2] (iSeq (eV 1)) (.nm 2) (testsD [(tCmp .Eq (eLc false [3, 4] (iEnum (eV 0)) (.tp [.nm 3, .nm 4]) (testsD [(tCmp .NotIn (eV 4) (eIx (eV 2) (eV 3)))]) (eV 3)) (eLst false []))]) (eV 2) [some v, some od, none, none, none] M = .ok (.lst (((osD os).filter fun _ => false).map id)) M := by
    refine lc_filter (src := iSeq (eV 1)) (xs := osD os) (iseq_at rfl n1 n2 sg) hg (by rw [lo]; omega) fun d hd => ?_
    obtain ⟨o, hoo, rfl⟩ := List.mem_map.mp hd
    refine ⟨[some v, some od, some (lotsD o), none, none], rfl, ?_, fun h => by cases h⟩
    have inn := inner_spec (od := od) hv hp hl hn (holen o hoo) (holot o hoo)
    show ((eLc false [3, 4] (iEnum (eV 0)) (.tp [.nm 3, .nm 4]) (testsD [(tCmp .NotIn (eV 4) (eIx (eV 2) (eV 3)))]) (eV 3) [some v, some od, some (lotsD o), none, none] M).bind fun x M => (Res.ok (D.lst []) M).bind fun y M => optB (cmpD .Eq x y M) M) = _
    rw [inn, rb_ok, rb_ok, eq_nil (h := 1) (by omega)]
    · obtain ⟨j, x, h1, h2⟩ := hout o hoo
      have mem := enum_get (i := 0) h1
      rw [Nat.zero_add] at mem
      have mem : D.tup [.int (j : Int), x] ∈ enumD 0 p := mem
      have mf : D.tup [.int (j : Int), x] ∈ (enumD 0 p).filter (missOf o) := List.mem_filter.mpr ⟨mem, by
        show (!hasA x (o.getD ((j : Int)).toNat [])) = true
        rw [Int.toNat_natCast, h2]
        rfl⟩
      cases hf : (enumD 0 p).filter (missOf o) with
      | nil => rw [hf] at mf; cases mf
      | cons a r => rfl
    · refine List.all_eq_true.mpr fun z hz => ?_
      obtain ⟨d, hd, rfl⟩ := List.mem_map.mp hz
      obtain ⟨j, x, h1, rfl⟩ := enum_mem (i := 0) (List.mem_filter.mp hd).1
      rfl
  have fe : ((osD os).filter fun _ => false).map id = [] := by
    rw [List.map_id]
    exact List.filter_eq_nil_iff.mpr fun _ _ => by simp
  rw [fe] at lc
  have e0 : cmpD .Eq (.lst []) (.lst []) M = some true := eq_nil (h := 1) (by omega) rfl
  have n1 : eLst false [] [some v, some od, none, none, none] M = .ok (.lst []) M := rfl
  simp [b_x_law_is_outside, startD, sRet, eCmp, rb_ok, lc, n1, e0, optR_some, end_rt]
end K78
set_option Elab.async false
set_option linter.all false
set_option maxRecDepth 100000
set_option maxHeartbeats 4000000
/-! L78: the law's body, piece by piece. -/
namespace K78
open PySem Ev
abbrev Call := Str → List D → Mem → Res D
abbrev p1 (call : Call) : DenS := (sSet (.nm 2) (eCall (call "_law_draw") (withDfl ["purse", "many"] []) [(false, (eV 1)), (false, (eC (.int (5))))] [] []))
abbrev p2 (call : Call) : DenS := (sSet (.nm 3) (eTup [(false, (eC (.str "speech"))), (false, (eSl (eLst false [(false, (eC (.str "a"))), (false, (eC (.str "b"))), (false, (eC (.str "c"))), (false, (eC (.str "d")))]) oNone (oSome (eV 2)))), (false, (eSl (eLst false [(false, (eC (.str "p")))]) oNone (oSome (eCall (call "_law_draw") (withDfl ["purse", "many"] []) [(false, (eV 1)), (false, (eC (.int (2))))] [] []))))]))
abbrev p3 (call : Call) : DenS := (sSet (.nm 4) (eCall (call "_law_atoms") (withDfl ["speech"] []) [(false, (eV 3))] [] []))
abbrev q1 (call : Call) : DenS := (sSet (.nm 6) (eBin .Add (eC (.int (1))) (eCall (call "_law_draw") (withDfl ["purse", "many"] []) [(false, (eV 1)), (false, (eIf (tCmp .Lt (eV 2) (eC (.int (3)))) (eC (.int (4))) (eC (.int (3)))))] [] [])))
abbrev q2 (call : Call) : DenS := (sSet (.tp [.nm 15, .nm 16]) (eTup [(false, (eLc false [19] (iRange1 (eV 6)) (.nm 19) (testsD []) (eCall (call "_law_lot") (withDfl ["purse", "atoms"] []) [(false, (eV 1)), (false, (eV 4))] [] []))), (false, (eLst true []))]))
abbrev q3 (call : Call) : DenS := (sFor (iRange1 (eCall (call "_law_draw") (withDfl ["purse", "many"] []) [(false, (eV 1)), (false, (eC (.int (8))))] [] [])) (.nm 7)
    (sDrop (eAppend (eV 16) (eLc false [18] (iSeq (eV 15)) (.nm 18) (testsD []) (eIf (tCmp .Gt (eCall (call "_law_draw") (withDfl ["purse", "many"] []) [(false, (eV 1)), (false, (eC (.int (3))))] [] []) (eC (.int (0)))) (eCall (call "_law_lot") (withDfl ["purse", "atoms"] []) [(false, (eV 1)), (false, (eV 4))] [] []) (eList false [(false, (eV 18))]))))))
abbrev q4 (call : Call) : DenS := (sIf (tBool .And [(tCmp .Lt (eV 2) (eC (.int (3)))), (tCmp .Eq (eCall (call "_law_draw") (withDfl ["purse", "many"] []) [(false, (eV 1)), (false, (eC (.int (2))))] [] []) (eC (.int (0))))])
    (sSet (.nm 16) (eBin .Add (eV 16) (eLc false [19] (iRange3 (eC (.int (0))) (eBi .len [(false, (eV 4))]) (eC (.int (2)))) (.nm 19) (testsD []) (eLc false [20, 18] (iEnum (eV 15)) (.tp [.nm 20, .nm 18]) (testsD []) (eIf (tCmp .Eq (eV 20) (eC (.int (0)))) (eList false [(false, (eSl (eV 4) (oSome (eV 19)) oNone))]) (eList false [(false, (eV 18))]))))))
    sNx)
abbrev q5 (call : Call) : DenS := (sPar 17 13 (eBi .repr [(false, (eLst false [(false, (eV 3)), (false, (eV 15)), (false, (eV 16))]))]) (eCall (call "_law_gone_through") (withDfl ["lots", "others", "at", "lead"] []) [(false, (eV 15)), (false, (eV 16)), (false, (eC (.int (0)))), (false, (eLst false []))] [] []))
abbrev q6 (call : Call) : DenS := (sSet (.nm 8) (eLst false [(false, (eCall (call "first_outside") (withDfl ["speech", "lots", "others"] []) [(false, (eV 3)), (false, (eV 15)), (false, (eV 16))] [] [])), (false, (eCall (call "first_outside") (withDfl ["speech", "lots", "others"] []) [] ["others", "lots", "speech"] [(false, (eV 16)), (false, (eV 15)), (false, (eV 3))]))]))
abbrev q7 (call : Call) : DenS := (sIf (tBool .Or [(tNot (tD (eCall (call "_law_same") (withDfl ["told", "due"] []) [(false, (eV 8)), (false, (eLst false [(false, (eV 13)), (false, (eV 13))]))] [] []))), (tCmp .NotEq (eBi .repr [(false, (eLst false [(false, (eV 3)), (false, (eV 15)), (false, (eV 16))]))]) (eV 17))])
    (sRet (eC (.bl false)))
    sNx)
abbrev q8 (call : Call) : DenS := (sIf (tBool .And [(tCmp .IsNot (eIx (eV 8) (eC (.int (0)))) (eC .non)), (tNot (tD (eCall (call "_law_is_outside") (withDfl ["atoms", "others"] []) [(false, (eIx (eV 8) (eC (.int (0))))), (false, (eV 16))] [] [])))])
    (sRet (eC (.bl false)))
    sNx)
abbrev q9 (call : Call) : DenS := (sIf (tCmp .IsNot (eIx (eV 8) (eC (.int (0)))) (eC .non))
    (sSeq (sDrop (eAppend (eIx (eV 8) (eC (.int (0)))) (eC (.str "spoilt"))))
    (sIf (tNot (tD (eCall (call "_law_same") (withDfl ["told", "due"] []) [(false, (eCall (call "first_outside") (withDfl ["speech", "lots", "others"] []) [(false, (eV 3)), (false, (eV 15)), (false, (eV 16))] [] [])), (false, (eV 13))] [] [])))
    (sRet (eC (.bl false)))
    sNx))
    sNx)
abbrev q10 (call : Call) : DenS := (sSet (.nm 9) (eList false [(false, (eV 4))]))
abbrev q11 (call : Call) : DenS := (sSet (.nm 10) (eBin .Add (eLst false [(false, (eV 9)), (false, (eIx (eV 15) (eC (.int (0))))), (false, (eV 9)), (false, (eV 9)), (false, (eIx (eV 15) (eBin .Sub (eBi .len [(false, (eV 15))]) (eC (.int (1))))))]) (eBin .Mult (eLst false [(false, (eV 9))]) (eCall (call "_law_draw") (withDfl ["purse", "many"] []) [(false, (eV 1)), (false, (eC (.int (7))))] [] []))))
abbrev q12 (call : Call) : DenS := (sSet (.nm 11) (eLc false [18] (iSeq (eV 16)) (.nm 18) (testsD []) (eBin .Add (eLst false [(false, (eV 9)), (false, (eIx (eV 18) (eC (.int (0))))), (false, (eV 9)), (false, (eV 9)), (false, (eIx (eV 18) (eBin .Sub (eBi .len [(false, (eV 18))]) (eC (.int (1))))))]) (eBin .Mult (eLst false [(false, (eV 9))]) (eBin .Sub (eBi .len [(false, (eV 10))]) (eC (.int (5))))))))
abbrev q13 (call : Call) : DenS := (sSet (.nm 12) (eCall (call "_law_gone_through") (withDfl ["lots", "others", "at", "lead"] []) [(false, (eLst false [(false, (eIx (eV 10) (eC (.int (1))))), (false, (eIx (eV 10) (eC (.int (4)))))])), (false, (eLc false [18] (iSeq (eV 11)) (.nm 18) (testsD []) (eLst false [(false, (eIx (eV 18) (eC (.int (1))))), (false, (eIx (eV 18) (eC (.int (4)))))]))), (false, (eC (.int (0)))), (false, (eLst false []))] [] []))
abbrev q14 (call : Call) : DenS := (sSet (.nm 13) (eIf (tCmp .Is (eV 12) (eC .non)) (eC .non) (eBin .Add (eLst false [(false, (eIx (eV 4) (eC (.int (0))))), (false, (eIx (eV 12) (eC (.int (0))))), (false, (eIx (eV 4) (eC (.int (0))))), (false, (eIx (eV 4) (eC (.int (0))))), (false, (eIx (eV 12) (eC (.int (1)))))]) (eBin .Mult (eLst false [(false, (eIx (eV 4) (eC (.int (0)))))]) (eBin .Sub (eBi .len [(false, (eV 10))]) (eC (.int (5))))))))
abbrev q15 (call : Call) : DenS := (sIf (tNot (tD (eCall (call "_law_same") (withDfl ["told", "due"] []) [(false, (eCall (call "first_outside") (withDfl ["speech", "lots", "others"] []) [(false, (eV 3)), (false, (eV 10)), (false, (eV 11))] [] [])), (false, (eV 13))] [] [])))
    (sRet (eC (.bl false)))
    sNx)
abbrev q16 (call : Call) : DenS := (sSet (.nm 14) (eIf (tCmp .In (eLst false []) (eV 15)) (eC .non) (eLc false [18] (iSeq (eV 15)) (.nm 18) (testsD []) (eIx (eV 18) (eC (.int (0)))))))
abbrev q17 (call : Call) : DenS := (sIf (tBool .Or [(tNot (tD (eCall (call "_law_same") (withDfl ["told", "due"] []) [(false, (eCall (call "first_outside") (withDfl ["speech", "lots", "others"] []) [(false, (eV 3)), (false, (eV 15)), (false, (eLst false []))] [] [])), (false, (eV 14))] [] []))), (tCmp .IsNot (eCall (call "first_outside") (withDfl ["speech", "lots", "others"] []) [(false, (eV 3)), (false, (eV 15)), (false, (eLst false [(false, (eV 15))]))] [] []) (eC .non))])
    (sRet (eC (.bl false)))
    sNx)
abbrev spinS (call : Call) : DenS := sSeq (q1 call) (sSeq (q2 call) (sSeq (q3 call) (sSeq (q4 call) (sSeq (q5 call) (sSeq (q6 call) (sSeq (q7 call) (sSeq (q8 call) (sSeq (q9 call) (sSeq (q10 call) (sSeq (q11 call) (sSeq (q12 call) (sSeq (q13 call) (sSeq (q14 call) (sSeq (q15 call) (sSeq (q16 call) (q17 call))))))))))))))))
abbrev purseS (call : Call) : DenS := sSeq (p1 call) (sSeq (p2 call) (sSeq (p3 call) (sFor (iRange1 (eC (.int (4)))) (.nm 5) (spinS call))))
theorem law_split (call : Call) : b_law call = sSeq (sFor (iSeq (eCall (call "_law_purses") (withDfl ["script", "few"] []) [(false, (eV 0)), (false, (eC (.int (3))))] [] [])) (.nm 1) (purseS call)) (sRet (eC (.bl true))) := rfl
/-! ### draws -/
abbrev drawE (call : Call) (d : Den) : Den := eCall (call "_law_draw") (withDfl ["purse", "many"] []) [(false, (eV 1)), (false, d)] [] []
theorem draw_call {δ : Slots} {M : Mem} {n : Nat} {B many : Int} {d : Den} (h1 : eV 1 δ M = .ok (.ref n) M) (hd : d δ M = .ok (.int many) M) (hp : Pu M n B) (hB : B < 2 ^ 50) (hm : 0 < many ∧ many < 2 ^ 27) :
    ∃ v M', drawE (callD cfg 99) d δ M = .ok (.int v) M' ∧ 0 ≤ v ∧ v < many ∧ Pu M' n (B + 1) ∧ But M M' n := by
  obtain ⟨v, M', g1, g2, g3, g4, g5⟩ := draw_spec 97 M n B many hp (by omega) hm
  refine ⟨v, M', ?_, g2, g3, g4, g5⟩
  have g1 : callD cfg 99 "_law_draw" [.ref n, .int many] M = .ok (.int v) M' := g1
  show eCall (callD cfg 99 "_law_draw") (withDfl ["purse", "many"] []) [(false, (eV 1)), (false, d)] [] [] δ M = _
  rw [call_pos (xs := [.ref n, .int many]) (ys := [.ref n, .int many]) (M' := M) ?_ rfl, g1]
  · rfl
  · rw [eL_one, h1, rb_ok, eL_one, hd, rb_ok]
    rfl
abbrev lotE (call : Call) : Den := eCall (call "_law_lot") (withDfl ["purse", "atoms"] []) [(false, (eV 1)), (false, (eV 4))] [] []
theorem lot_call {δ : Slots} {M : Mem} {n t : Nat} {B : Int} (ht : t < 5) (h1 : eV 1 δ M = .ok (.ref n) M) (h4 : eV 4 δ M = .ok (.lst (atoms t)) M) (hp : Pu M n B) (hB : B < 2 ^ 50) :
    ∃ xs M', lotE (callD cfg 99) δ M = .ok (.lst xs) M' ∧ xs.Sublist (atoms t) ∧ Pu M' n (B + 17) ∧ But M M' n := by
  obtain ⟨xs, M', g1, g2, g3, g4⟩ := lot_draw 96 M n t B ht hp hB
  refine ⟨xs, M', ?_, g2, g3, g4⟩
  have g1 : callD cfg 99 "_law_lot" [.ref n, .lst (atoms t)] M = .ok (.lst xs) M' := g1
  show eCall (callD cfg 99 "_law_lot") (withDfl ["purse", "atoms"] []) [(false, (eV 1)), (false, (eV 4))] [] [] δ M = _
  rw [call_pos (xs := [.ref n, .lst (atoms t)]) (ys := [.ref n, .lst (atoms t)]) (M' := M) ?_ rfl, g1]
  · rfl
  · rw [eL_one, h1, rb_ok, eL_one, h4, rb_ok]
    rfl
theorem go_cons {i : Nat} {elt : Den} {δ : Slots} {x : D} {xs : List D} {M : Mem} : lcGo (.nm i) (testsD []) elt [] δ (x :: xs) M = ((elt (δ.set i (some x)) M).bind fun y M => (lcGo (.nm i) (testsD []) elt [] δ xs M).bind fun ys M => .ok (y :: ys) M) := rfl
theorem lots_go {δ : Slots} {i n t : Nat} (ht : t < 5) (h1 : ∀ x M, eV 1 (δ.set i (some x)) M = .ok (.ref n) M) (h4 : ∀ x M, eV 4 (δ.set i (some x)) M = .ok (.lst (atoms t)) M) : ∀ (xs : List D) (M : Mem) (B : Int), Pu M n B → B + 17 * xs.length < 2 ^ 50 →
    ∃ (ls : List (List D)) (M' : Mem), lcGo (.nm i) (testsD []) (lotE (callD cfg 99)) [] δ xs M = .ok (ls.map D.lst) M' ∧ ls.length = xs.length ∧ (∀ l ∈ ls, l.Sublist (atoms t)) ∧ Pu M' n (B + 17 * xs.length) ∧ But M M' n
  | [], M, B, hp, _ => ⟨[], M, rfl, rfl, (fun l h => by cases h), by simpa using hp, But.refl M n⟩
  | x :: xs, M, B, hp, hB => by
    rw [List.length_cons] at hB
    obtain ⟨l, M1, g1, g2, g3, g4⟩ := lot_call ht (h1 x M) (h4 x M) hp (by omega)
    obtain ⟨ls, M2, k1, k2, k3, k4, k5⟩ := lots_go ht h1 h4 xs M1 (B + 17) g3 (by omega)
    refine ⟨l :: ls, M2, ?_, by simp [k2], fun y hy => ?_, k4.mono (by rw [List.length_cons]; omega), g4.trans k5⟩
    · rw [go_cons, g1, rb_ok, k1, rb_ok]
      rfl
    · rcases List.mem_cons.mp hy with e | e
      · rw [e]; exact g2
      · exact k3 y e
abbrev otherE (call : Call) : Den := eIf (tCmp .Gt (drawE call (eC (.int 3))) (eC (.int 0))) (lotE call) (eList false [(false, (eV 18))])
theorem other_go {δ : Slots} {n t : Nat} (ht : t < 5) (h1 : ∀ x M, eV 1 (δ.set 18 (some x)) M = .ok (.ref n) M) (h4 : ∀ x M, eV 4 (δ.set 18 (some x)) M = .ok (.lst (atoms t)) M) (h18 : ∀ x M, eV 18 (δ.set 18 (some x)) M = .ok x M) :
    ∀ (ls : List (List D)) (M : Mem) (B : Int), (∀ l ∈ ls, l.Sublist (atoms t)) → Pu M n B → B + 18 * ls.length < 2 ^ 50 →
    ∃ (o : List (List D)) (M' : Mem), lcGo (.nm 18) (testsD []) (otherE (callD cfg 99)) [] δ (ls.map D.lst) M = .ok (o.map D.lst) M' ∧ o.length = ls.length ∧ (∀ l ∈ o, l.Sublist (atoms t)) ∧ Pu M' n (B + 18 * ls.length) ∧ But M M' n
  | [], M, B, _, hp, _ => ⟨[], M, rfl, rfl, (fun l h => by cases h), by simpa using hp, But.refl M n⟩
  | x :: xs, M, B, hs, hp, hB => by
    rw [List.length_cons] at hB
    obtain ⟨v, M1, d1, d2, d3, d4, d5⟩ := draw_call (d := eC (.int 3)) (h1 (.lst x) M) rfl hp (by omega) (by decide)
    have st : ∃ l M2, otherE (callD cfg 99) (δ.set 18 (some (.lst x))) M = .ok (.lst l) M2 ∧ l.Sublist (atoms t) ∧ Pu M2 n (B + 18) ∧ But M M2 n := by
      have te : tCmp .Gt (drawE (callD cfg 99) (eC (.int 3))) (eC (.int 0)) (δ.set 18 (some (.lst x))) M = .ok (decide (0 < v)) M1 := by
        show ((drawE (callD cfg 99) (eC (.int 3)) (δ.set 18 (some (.lst x))) M).bind fun x M => _) = _
        rw [d1, rb_ok]
        rfl
      by_cases hv : 0 < v
      · obtain ⟨l, M2, g1, g2, g3, g4⟩ := lot_call ht (h1 (.lst x) M1) (h4 (.lst x) M1) d4 (by omega)
        refine ⟨l, M2, ?_, g2, g3.mono (by omega), d5.trans g4⟩
        show ((tCmp .Gt (drawE (callD cfg 99) (eC (.int 3))) (eC (.int 0)) (δ.set 18 (some (.lst x))) M).bind fun c M => _) = _
        rw [te, rb_ok, decide_eq_true hv]
        exact g1
      · refine ⟨x, M1, ?_, hs x (by simp), d4.mono (by omega), d5⟩
        show ((tCmp .Gt (drawE (callD cfg 99) (eC (.int 3))) (eC (.int 0)) (δ.set 18 (some (.lst x))) M).bind fun c M => _) = _
        rw [te, rb_ok, decide_eq_false hv]
        show ((eL [(false, eV 18)] _ M1).bind fun xs M => _) = _
        rw [eL_one, h18]
        rfl
    obtain ⟨l, M2, g1, g2, g3, g4⟩ := st
    obtain ⟨o, M3, k1, k2, k3, k4, k5⟩ := other_go ht h1 h4 h18 xs M2 (B + 18) (fun l hl => hs l (List.mem_cons_of_mem _ hl)) g3 (by omega)
    refine ⟨l :: o, M3, ?_, by simp [k2], fun y hy => ?_, k4.mono (by rw [List.length_cons]; omega), g4.trans k5⟩
    · rw [List.map_cons, go_cons, g1, rb_ok, k1, rb_ok]
      rfl
    · rcases List.mem_cons.mp hy with e | e
      · rw [e]; exact g2
      · exact k3 y e
/-! ### slots -/
abbrev SL (s : D) (n t p : Nat) (a5 a6 a7 a8 a9 a10 a11 a12 a13 a14 a15 a16 a17 : Option D) : Slots := [some s, some (.ref n), some (.int t), some (speech t p), some (.lst (atoms t)), a5, a6, a7, a8, a9, a10, a11, a12, a13, a14, a15, a16, a17, none, none, none]
theorem range_ok {δ : Slots} {M M' : Mem} {d : Den} {v : Int} (h : d δ M = .ok (.int v) M') (h0 : 0 ≤ v) (h1 : v < 1000) : iRange1 d δ M = .ok (rangeD 0 v.toNat, []) M' := by
  show ((d δ M).bind fun x M => match x with
    | .int j => if in62 j then Res.ok (rangeD 0 j.toNat, []) M else .bad
    | _ => .bad) = _
  rw [h, rb_ok]
  show (if in62 v then Res.ok (rangeD 0 v.toNat, []) M' else .bad) = _
  have i2 : in62 v = true := by unfold in62; rw [decide_eq_true (by omega), decide_eq_true (by omega)]; rfl
  rw [if_pos i2]
theorem rangeD_len (v : Nat) : (rangeD 0 v).length = v := by unfold rangeD; rw [List.length_map, List.length_range]
theorem seg1 {s : D} {n t p : Nat} {B : Int} {M : Mem} {a5 a6 a7 a8 a9 a10 a11 a12 a13 a14 a15 a16 a17 : Option D} (hp : Pu M n B) (hB : B < 2 ^ 40) :
    ∃ (many : Nat) (M' : Mem), 1 ≤ many ∧ many ≤ 4 ∧ q1 (callD cfg 99) (SL s n t p a5 a6 a7 a8 a9 a10 a11 a12 a13 a14 a15 a16 a17) M = .ok (.nx (SL s n t p a5 (some (.int many)) a7 a8 a9 a10 a11 a12 a13 a14 a15 a16 a17)) M' ∧ Pu M' n (B + 1) ∧ But M M' n := by
  have hd : ∃ m : Int, 0 < m ∧ m ≤ 4 ∧ eIf (tCmp .Lt (eV 2) (eC (.int (3)))) (eC (.int (4))) (eC (.int (3))) (SL s n t p a5 a6 a7 a8 a9 a10 a11 a12 a13 a14 a15 a16 a17) M = .ok (.int m) M := by
    have te : tCmp .Lt (eV 2) (eC (.int (3))) (SL s n t p a5 a6 a7 a8 a9 a10 a11 a12 a13 a14 a15 a16 a17) M = .ok (decide ((t : Int) < 3)) M := rfl
    by_cases h : (t : Int) < 3
    · refine ⟨4, by decide, by decide, ?_⟩
      show ((tCmp .Lt (eV 2) (eC (.int (3))) _ M).bind _) = _
      rw [te, rb_ok, decide_eq_true h]
      rfl
    · refine ⟨3, by decide, by decide, ?_⟩
      show ((tCmp .Lt (eV 2) (eC (.int (3))) _ M).bind _) = _
      rw [te, rb_ok, decide_eq_false h]
      rfl
  obtain ⟨m, m1, m2, hd⟩ := hd
  obtain ⟨v, M', d1, d2, d3, d4, d5⟩ := draw_call (δ := SL s n t p a5 a6 a7 a8 a9 a10 a11 a12 a13 a14 a15 a16 a17) rfl hd hp (by omega) ⟨m1, by omega⟩
  refine ⟨(1 + v).toNat, M', by omega, by omega, ?_, d4, d5⟩
  have e : (((1 + v).toNat : Nat) : Int) = 1 + v := by omega
  rw [e]
  have d1 : eCall (callD cfg 99 "_law_draw") (withDfl ["purse", "many"] []) [(false, (eV 1)), (false, (eIf (tCmp .Lt (eV 2) (eC (.int (3)))) (eC (.int (4))) (eC (.int (3)))))] [] [] (SL s n t p a5 a6 a7 a8 a9 a10 a11 a12 a13 a14 a15 a16 a17) M = .ok (.int v) M' := d1
  show (((eCall (callD cfg 99 "_law_draw") (withDfl ["purse", "many"] []) [(false, (eV 1)), (false, (eIf (tCmp .Lt (eV 2) (eC (.int (3)))) (eC (.int (4))) (eC (.int (3)))))] [] [] (SL s n t p a5 a6 a7 a8 a9 a10 a11 a12 a13 a14 a15 a16 a17) M).bind fun y M => addD (.int 1) y M).bind _) = _
  rw [d1]
  rfl
theorem seg2 {s : D} {n t p : Nat} {B : Int} {M : Mem} {many : Nat} {a5 a7 a8 a9 a10 a11 a12 a13 a14 a15 a16 a17 : Option D} (ht : t < 5) (h4 : many ≤ 4) (hp : Pu M n B) (hB : B < 2 ^ 40) :
    ∃ (ls : List (List D)) (M1 : Mem), ls.length = many ∧ (∀ l ∈ ls, l.Sublist (atoms t)) ∧ q2 (callD cfg 99) (SL s n t p a5 (some (.int many)) a7 a8 a9 a10 a11 a12 a13 a14 a15 a16 a17) M = .ok (.nx (SL s n t p a5 (some (.int many)) a7 a8 a9 a10 a11 a12 a13 a14 (some (lotsD ls)) (some (.ref M.length)) a17)) (M1 ++ [.lst []]) ∧ Pu M1 n (B + 100) ∧ But M M1 n := by
  obtain ⟨ls, M1, k1, k2, k3, k4, k5⟩ := lots_go (δ := SL s n t p a5 (some (.int many)) a7 a8 a9 a10 a11 a12 a13 a14 a15 a16 a17) (i := 19) (n := n) ht (fun _ _ => rfl) (fun _ _ => rfl) (rangeD 0 many) M B hp (by rw [rangeD_len]; omega)
  rw [rangeD_len] at k2 k4
  refine ⟨ls, M1, k2, k3, ?_, k4.mono (by omega), k5⟩
  have src : iRange1 (eV 6) (SL s n t p a5 (some (.int many)) a7 a8 a9 a10 a11 a12 a13 a14 a15 a16 a17) M = .ok (rangeD 0 many, []) M := by
    have := range_ok (δ := SL s n t p a5 (some (.int many)) a7 a8 a9 a10 a11 a12 a13 a14 a15 a16 a17) (M := M) (d := eV 6) (v := many) rfl (by omega) (by omega)
    rw [Int.toNat_natCast] at this
    exact this
  have lc : eLc false [19] (iRange1 (eV 6)) (.nm 19) (testsD []) (lotE (callD cfg 99)) (SL s n t p a5 (some (.int many)) a7 a8 a9 a10 a11 a12 a13 a14 a15 a16 a17) M = .ok (lotsD ls) M1 := by
    show ((iRange1 (eV 6) (SL s n t p a5 (some (.int many)) a7 a8 a9 a10 a11 a12 a13 a14 a15 a16 a17) M).bind fun p' M => (noErr (lcGo (.nm 19) (testsD []) (lotE (callD cfg 99)) p'.2 (SL s n t p a5 (some (.int many)) a7 a8 a9 a10 a11 a12 a13 a14 a15 a16 a17) p'.1 M)).bind fun ys M => if ys.length ≤ sizeLine then newL false ys M else .bad) = _
    rw [src, rb_ok]
    show ((noErr (lcGo (.nm 19) (testsD []) (lotE (callD cfg 99)) [] (SL s n t p a5 (some (.int many)) a7 a8 a9 a10 a11 a12 a13 a14 a15 a16 a17) (rangeD 0 many) M)).bind fun ys M => if ys.length ≤ sizeLine then newL false ys M else .bad) = _
    rw [k1]
    show (if (ls.map D.lst).length ≤ sizeLine then newL false (ls.map D.lst) M1 else .bad) = _
    rw [if_pos (by rw [List.length_map]; have := lines; omega)]
    rfl
  have lc : eLc false [19] (iRange1 (eV 6)) (.nm 19) (testsD []) (eCall (callD cfg 99 "_law_lot") (withDfl ["purse", "atoms"] []) [(false, (eV 1)), (false, (eV 4))] [] []) (SL s n t p a5 (some (.int many)) a7 a8 a9 a10 a11 a12 a13 a14 a15 a16 a17) M = .ok (lotsD ls) M1 := lc
  have tp : eTup [(false, (eLc false [19] (iRange1 (eV 6)) (.nm 19) (testsD []) (eCall (callD cfg 99 "_law_lot") (withDfl ["purse", "atoms"] []) [(false, (eV 1)), (false, (eV 4))] [] []))), (false, (eLst true []))] (SL s n t p a5 (some (.int many)) a7 a8 a9 a10 a11 a12 a13 a14 a15 a16 a17) M = .ok (.tup [lotsD ls, .ref M.length]) (M1 ++ [.lst []]) := by
    show ((eL _ _ M).bind fun xs M => guardR (decide (xs.length ≤ sizeLine)) (.tup xs) M) = _
    rw [eL_one, lc, rb_ok, ← k5.1]
    show guardR (decide (([lotsD ls, .ref M1.length] : List D).length ≤ sizeLine)) (.tup [lotsD ls, .ref M1.length]) (M1 ++ [.lst []]) = _
    exact g_true' (show decide (2 ≤ sizeLine) = true by decide)
  show ((eTup _ (SL s n t p a5 (some (.int many)) a7 a8 a9 a10 a11 a12 a13 a14 a15 a16 a17) M).bind fun x M => _) = _
  rw [tp]
  rfl
end K78
set_option Elab.async false
set_option linter.all false
set_option maxRecDepth 100000
set_option maxHeartbeats 4000000
/-! Q78: the law's body: the others. -/
namespace K78
open PySem Ev
/-- only the objects n and m change -/
structure Two (M M' : Mem) (n m : Nat) : Prop where
  len : M'.length = M.length
  old : ∀ j, j ≠ n → j ≠ m → M'[j]? = M[j]?
theorem Two.refl (M : Mem) (n m : Nat) : Two M M n m := ⟨rfl, fun _ _ _ => rfl⟩
theorem Two.trans {M M1 M2 : Mem} {n m : Nat} (a : Two M M1 n m) (b : Two M1 M2 n m) : Two M M2 n m := ⟨b.len.trans a.len, fun j h h' => (b.old j h h').trans (a.old j h h')⟩
abbrev restE (call : Call) : Den := eLc false [18] (iSeq (eV 15)) (.nm 18) (testsD []) (eIf (tCmp .Gt (eCall (call "_law_draw") (withDfl ["purse", "many"] []) [(false, (eV 1)), (false, (eC (.int (3))))] [] []) (eC (.int (0)))) (eCall (call "_law_lot") (withDfl ["purse", "atoms"] []) [(false, (eV 1)), (false, (eV 4))] [] []) (eList false [(false, (eV 18))]))
theorem turn3 {s : D} {n t p m : Nat} {B : Int} {M : Mem} {ls : List (List D)} {os : List (List (List D))} {a5 a6 a7 a8 a9 a10 a11 a12 a13 a14 a17 : Option D} (ht : t < 5) (h4 : ls.length ≤ 4) (hls : ∀ l ∈ ls, l.Sublist (atoms t)) (hp : Pu M n B) (hB : B < 2 ^ 41) (hm : lstAt M m = some (osD os)) (hn : n ≠ m) (hf : os.length < 400) :
    ∃ (o : List (List D)) (M' : Mem), sDrop (eAppend (eV 16) (restE (callD cfg 99))) (SL s n t p a5 a6 a7 a8 a9 a10 a11 a12 a13 a14 (some (lotsD ls)) (some (.ref m)) a17) M = .ok (.nx (SL s n t p a5 a6 a7 a8 a9 a10 a11 a12 a13 a14 (some (lotsD ls)) (some (.ref m)) a17)) M' ∧
      o.length = ls.length ∧ (∀ l ∈ o, l.Sublist (atoms t)) ∧ lstAt M' m = some (osD (os ++ [o])) ∧ Pu M' n (B + 72) ∧ Two M M' n m := by
  generalize hδ : SL s n t p a5 a6 a7 a8 a9 a10 a11 a12 a13 a14 (some (lotsD ls)) (some (.ref m)) a17 = δ
  have w1 : ∀ x M, eV 1 ((wipeD δ [18]).set 18 (some x)) M = .ok (.ref n) M := fun x M => by rw [← hδ]; rfl
  have w4 : ∀ x M, eV 4 ((wipeD δ [18]).set 18 (some x)) M = .ok (.lst (atoms t)) M := fun x M => by rw [← hδ]; rfl
  have w18 : ∀ x M, eV 18 ((wipeD δ [18]).set 18 (some x)) M = .ok x M := fun x M => by rw [← hδ]; rfl
  have w16 : ∀ M, eV 16 δ M = .ok (.ref m) M := fun M => by rw [← hδ]; rfl
  have src : iSeq (eV 15) δ M = .ok (ls.map D.lst, []) M := by rw [← hδ]; rfl
  obtain ⟨o, M1, k1, k2, k3, k4, k5⟩ := other_go ht w1 w4 w18 ls M B hls hp (by omega)
  have lc : restE (callD cfg 99) δ M = .ok (lotsD o) M1 := by
    show ((iSeq (eV 15) δ M).bind fun p' M => (noErr (lcGo (.nm 18) (testsD []) (otherE (callD cfg 99)) p'.2 (wipeD δ [18]) p'.1 M)).bind fun ys M => if ys.length ≤ sizeLine then newL false ys M else .bad) = _
    rw [src, rb_ok]
    show ((noErr (lcGo (.nm 18) (testsD []) (otherE (callD cfg 99)) [] (wipeD δ [18]) (ls.map D.lst) M)).bind fun ys M => if ys.length ≤ sizeLine then newL false ys M else .bad) = _
    rw [k1]
    show (if (o.map D.lst).length ≤ sizeLine then newL false (o.map D.lst) M1 else .bad) = _
    rw [if_pos (by rw [List.length_map]; have := lines; omega)]
    rfl
  have hm1 : lstAt M1 m = some (osD os) := by
    refine lstAt_of ?_
    rw [k5.2 m (Ne.symm hn)]
    exact lstAt_some hm
  have lo : (osD os).length = os.length := by unfold osD; rw [List.length_map]
  refine ⟨o, M1.set m (.lst (osD (os ++ [o]))), ?_, k2, k3, lstAt_of (set_at (lstAt_some hm1)), ?_, ⟨by rw [List.length_set]; exact k5.1, fun j h h' => ?_⟩⟩
  · have ap : eAppend (eV 16) (restE (callD cfg 99)) δ M = .ok .non (M1.set m (.lst (osD (os ++ [o])))) := by
      show ((eV 16 δ M).bind fun x M => match x with
        | .ref n => (match lstAt M n with
          | some _ => (restE (callD cfg 99) δ M).bind fun v M => (match lstAt M n with
            | some ys => if ys.length < sizeLine then Res.ok D.non (M.set n (.lst (ys ++ [v]))) else .bad
            | none => .bad)
          | none => .bad)
        | _ => .bad) = _
      rw [w16, rb_ok]
      show (match lstAt M m with
          | some _ => (restE (callD cfg 99) δ M).bind fun v M => (match lstAt M m with
            | some ys => if ys.length < sizeLine then Res.ok D.non (M.set m (.lst (ys ++ [v]))) else .bad
            | none => .bad)
          | none => .bad) = _
      rw [hm]
      show ((restE (callD cfg 99) δ M).bind fun v M => (match lstAt M m with
            | some ys => if ys.length < sizeLine then Res.ok D.non (M.set m (.lst (ys ++ [v]))) else .bad
            | none => .bad)) = _
      rw [lc, rb_ok]
      show (match lstAt M1 m with
            | some ys => if ys.length < sizeLine then Res.ok D.non (M1.set m (.lst (ys ++ [lotsD o]))) else .bad
            | none => .bad) = _
      rw [hm1]
      show (if (osD os).length < sizeLine then Res.ok D.non (M1.set m (.lst (osD os ++ [lotsD o]))) else .bad) = _
      rw [if_pos (by rw [lo]; have := lines; omega)]
      congr 3
      unfold osD
      rw [List.map_append]
      rfl
    show ((eAppend (eV 16) (restE (callD cfg 99)) δ M).bind fun _ M => Res.ok (Fl.nx δ) M) = _
    rw [ap]
    rfl
  · obtain ⟨a, b, c, d, e1, e2, e3, e4⟩ := k4
    exact ⟨a, b, c, d, by rw [List.getElem?_set_ne (Ne.symm hn)]; exact e1, e2, e3, by omega⟩
  · rw [List.getElem?_set_ne (Ne.symm h')]
    exact k5.2 j h
theorem loop3 {s : D} {n t p m : Nat} {ls : List (List D)} {a5 a6 a8 a9 a10 a11 a12 a13 a14 a17 : Option D} (ht : t < 5) (h4 : ls.length ≤ 4) (hls : ∀ l ∈ ls, l.Sublist (atoms t)) (hn : n ≠ m) : ∀ (xs : List D) (B : Int) (M : Mem) (os : List (List (List D))) (a7 : Option D), Pu M n B → B + 72 * xs.length < 2 ^ 41 → lstAt M m = some (osD os) → os.length + xs.length < 400 →
    (∀ o ∈ os, o.length = ls.length ∧ ∀ l ∈ o, l.Sublist (atoms t)) →
    ∃ (os' : List (List (List D))) (M' : Mem) (a7' : Option D), forGo (.nm 7) (sDrop (eAppend (eV 16) (restE (callD cfg 99)))) [] xs (SL s n t p a5 a6 a7 a8 a9 a10 a11 a12 a13 a14 (some (lotsD ls)) (some (.ref m)) a17) M = .ok (.nx (SL s n t p a5 a6 a7' a8 a9 a10 a11 a12 a13 a14 (some (lotsD ls)) (some (.ref m)) a17)) M' ∧
      os'.length = os.length + xs.length ∧ (∀ o ∈ os', o.length = ls.length ∧ ∀ l ∈ o, l.Sublist (atoms t)) ∧ lstAt M' m = some (osD os') ∧ Pu M' n (B + 72 * xs.length) ∧ Two M M' n m
  | [], B, M, os, a7, hp, _, hm, _, hos => ⟨os, M, a7, for_nil, rfl, hos, hm, by simpa using hp, Two.refl _ _ _⟩
  | x :: xs, B, M, os, a7, hp, hB, hm, hf, hos => by
    rw [List.length_cons] at hB hf
    obtain ⟨o, M1, k1, k2, k3, k4, k5, k6⟩ := turn3 (s := s) (p := p) (a5 := a5) (a6 := a6) (a7 := some x) (a8 := a8) (a9 := a9) (a10 := a10) (a11 := a11) (a12 := a12) (a13 := a13) (a14 := a14) (a17 := a17) ht h4 hls hp (by omega) hm hn (by omega)
    obtain ⟨os', M2, a7', g1, g2, g3, g4, g5, g6⟩ := loop3 (s := s) (p := p) (a5 := a5) (a6 := a6) (a8 := a8) (a9 := a9) (a10 := a10) (a11 := a11) (a12 := a12) (a13 := a13) (a14 := a14) (a17 := a17) ht h4 hls hn xs (B + 72) M1 (os ++ [o]) (some x) k5 (by omega) k4 (by simp; omega) fun y hy => by
      rcases List.mem_append.mp hy with e | e
      · exact hos y e
      · have e : y = o := by simpa using e
        rw [e]; exact ⟨k2, k3⟩
    refine ⟨os', M2, a7', ?_, by rw [g2, List.length_append, List.length_cons]; simp; omega, g3, g4, g5.mono (by rw [List.length_cons]; omega), k6.trans g6⟩
    rw [for_cons (δ' := SL s n t p a5 a6 (some x) a8 a9 a10 a11 a12 a13 a14 (some (lotsD ls)) (some (.ref m)) a17) rfl, k1, rb_ok]
    exact g1
theorem seg3 {s : D} {n t p m : Nat} {B : Int} {M : Mem} {ls : List (List D)} {a5 a6 a7 a8 a9 a10 a11 a12 a13 a14 a17 : Option D} (ht : t < 5) (h4 : ls.length ≤ 4) (hls : ∀ l ∈ ls, l.Sublist (atoms t)) (hn : n ≠ m) (hp : Pu M n B) (hB : B < 2 ^ 40) (hm : lstAt M m = some (osD [])) :
    ∃ (os : List (List (List D))) (M' : Mem) (a7' : Option D), q3 (callD cfg 99) (SL s n t p a5 a6 a7 a8 a9 a10 a11 a12 a13 a14 (some (lotsD ls)) (some (.ref m)) a17) M = .ok (.nx (SL s n t p a5 a6 a7' a8 a9 a10 a11 a12 a13 a14 (some (lotsD ls)) (some (.ref m)) a17)) M' ∧
      os.length ≤ 7 ∧ (∀ o ∈ os, o.length = ls.length ∧ ∀ l ∈ o, l.Sublist (atoms t)) ∧ lstAt M' m = some (osD os) ∧ Pu M' n (B + 600) ∧ Two M M' n m := by
  obtain ⟨v, M1, d1, d2, d3, d4, d5⟩ := draw_call (δ := SL s n t p a5 a6 a7 a8 a9 a10 a11 a12 a13 a14 (some (lotsD ls)) (some (.ref m)) a17) (d := eC (.int 8)) rfl rfl hp (by omega) (by decide)
  have src := range_ok d1 d2 (by omega)
  have hm1 : lstAt M1 m = some (osD []) := by
    refine lstAt_of ?_
    rw [d5.2 m (Ne.symm hn)]
    exact lstAt_some hm
  have lr : (rangeD 0 v.toNat).length ≤ 7 := by rw [rangeD_len]; omega
  obtain ⟨os, M2, a7', g1, g2, g3, g4, g5, g6⟩ := loop3 (s := s) (p := p) (a5 := a5) (a6 := a6) (a8 := a8) (a9 := a9) (a10 := a10) (a11 := a11) (a12 := a12) (a13 := a13) (a14 := a14) (a17 := a17) ht h4 hls hn (rangeD 0 v.toNat) (B + 1) M1 [] a7 d4 (by omega) hm1 (by simp; omega) (fun o h => by cases h)
  refine ⟨os, M2, a7', ?_, by rw [g2]; simp; omega, g3, g4, g5.mono (by omega), ⟨g6.len.trans d5.1, fun j h h' => (g6.old j h h').trans (d5.2 j h)⟩⟩
  show ((iRange1 (drawE (callD cfg 99) (eC (.int 8))) (SL s n t p a5 a6 a7 a8 a9 a10 a11 a12 a13 a14 (some (lotsD ls)) (some (.ref m)) a17) M).bind fun p' M => forGo (.nm 7) (sDrop (eAppend (eV 16) (restE (callD cfg 99)))) p'.2 p'.1 (SL s n t p a5 a6 a7 a8 a9 a10 a11 a12 a13 a14 (some (lotsD ls)) (some (.ref m)) a17) M) = _
  rw [src, rb_ok]
  exact g1
end K78
set_option Elab.async false
set_option linter.all false
set_option maxRecDepth 100000
set_option maxHeartbeats 4000000
/-! R78: the law's body: more others; then repr, gone through. -/
namespace K78
open PySem Ev
abbrev rowE : Den := eLc false [20, 18] (iEnum (eV 15)) (.tp [.nm 20, .nm 18]) (testsD []) (eIf (tCmp .Eq (eV 20) (eC (.int (0)))) (eList false [(false, (eSl (eV 4) (oSome (eV 19)) oNone))]) (eList false [(false, (eV 18))]))
abbrev moreE : Den := eLc false [19] (iRange3 (eC (.int (0))) (eBi .len [(false, (eV 4))]) (eC (.int (2)))) (.nm 19) (testsD []) rowE
def cutO (t : Nat) (i : Int) : List (List D) → List (List D)
  | [] => []
  | _ :: r => cutD (atoms t) (some i) none :: r
theorem cut_sub {xs : List D} {lo hi : Option Int} : (cutD xs lo hi).Sublist xs := (List.take_sublist _ _).trans (List.drop_sublist _ _)
theorem cutO_len {t : Nat} {i : Int} {ls : List (List D)} : (cutO t i ls).length = ls.length := by cases ls <;> rfl
theorem cutO_sub {t : Nat} {i : Int} {ls : List (List D)} (h : ∀ l ∈ ls, l.Sublist (atoms t)) : ∀ l ∈ cutO t i ls, l.Sublist (atoms t) := by
  cases ls with
  | nil => intro l hl; cases hl
  | cons a r =>
    intro l hl
    rcases List.mem_cons.mp hl with e | e
    · rw [e]; exact cut_sub
    · exact h l (List.mem_cons_of_mem _ e)
def rowF (t : Nat) (i : Int) : D → D
  | .tup [.int j, x] => if j = 0 then .lst (cutD (atoms t) (some i) none) else x
  | _ => .non
theorem row_rest {t : Nat} {i : Int} : ∀ (k : Nat) (xs : List D), (enumD ((k + 1 : Nat) : Int) xs).map (rowF t i) = xs
  | k, [] => rfl
  | k, x :: xs => by
    have ih := row_rest (t := t) (i := i) (k + 1) xs
    show rowF t i (.tup [.int ((k + 1 : Nat) : Int), x]) :: (enumD ((k + 1 + 1 : Nat) : Int) xs).map (rowF t i) = _
    rw [ih]
    congr 1
theorem row_all {t : Nat} {i : Int} (ls : List (List D)) : (enumD 0 (ls.map D.lst)).map (rowF t i) = (cutO t i ls).map D.lst := by
  cases ls with
  | nil => rfl
  | cons l r =>
    show rowF t i (.tup [.int 0, .lst l]) :: (enumD ((0 + 1 : Nat) : Int) (r.map D.lst)).map (rowF t i) = _
    rw [row_rest]
    rfl
theorem row_spec {δ : Slots} {M : Mem} {t : Nat} {i : Int} {ls : List (List D)} (h15 : eV 15 δ M = .ok (lotsD ls) M) (hl : ls.length ≤ 400)
    (hs : ∀ a b, ∃ δ', setT (.tp [.nm 20, .nm 18]) (.tup [a, b]) (wipeD δ [20, 18]) = some δ' ∧ eV 4 δ' M = .ok (.lst (atoms t)) M ∧ eV 19 δ' M = .ok (.int i) M ∧ eV 20 δ' M = .ok a M ∧ eV 18 δ' M = .ok b M) : rowE δ M = .ok (lotsD (cutO t i ls)) M := by
  have src : iEnum (eV 15) δ M = .ok (enumD 0 (ls.map D.lst), []) M := by
    show ((eV 15 δ M).bind fun x M => match seqG M x with
      | some (xs, g) => Res.ok (enumD 0 xs, g) M
      | none => .bad) = _
    rw [h15]
    rfl
  have q := lc_map (M := M) (vs := [20, 18]) (src := iEnum (eV 15)) (tg := .tp [.nm 20, .nm 18]) (elt := eIf (tCmp .Eq (eV 20) (eC (.int (0)))) (eList false [(false, (eSl (eV 4) (oSome (eV 19)) oNone))]) (eList false [(false, (eV 18))])) (g := []) (δ := δ) (xs := enumD 0 (ls.map D.lst)) (f := rowF t i) src gd_nil
    (by rw [enum_len, List.length_map]; have := lines; omega) fun d hd => by
      obtain ⟨j, x, h1, rfl⟩ := enum_mem (i := 0) hd
      rw [Nat.zero_add]
      obtain ⟨δ', s1, s4, s19, s20, s18⟩ := hs (.int (j : Int)) x
      refine ⟨δ', s1, ?_⟩
      have hx : ∃ l, x = .lst l := by
        obtain ⟨l, hl, e⟩ := List.mem_map.mp (List.mem_of_getElem? h1)
        exact ⟨l, e.symm⟩
      obtain ⟨l, rfl⟩ := hx
      have te : tCmp .Eq (eV 20) (eC (.int 0)) δ' M = .ok (decide ((j : Int) = 0)) M := by
        show ((eV 20 δ' M).bind fun x M => (Res.ok (.int 0) M).bind fun y M => optB (cmpD .Eq x y M) M) = _
        rw [s20, rb_ok, rb_ok]
        have e : cmpD .Eq (.int (j : Int)) (.int 0) M = eqD (.int j) (.int 0) M := rfl
        rw [e, eq_int]
        rfl
      show ((tCmp .Eq (eV 20) (eC (.int 0)) δ' M).bind fun c M => _) = _
      rw [te, rb_ok]
      by_cases hj : (j : Int) = 0
      · rw [decide_eq_true hj]
        show eList false [(false, (eSl (eV 4) (oSome (eV 19)) oNone))] δ' M = _
        have sl : eSl (eV 4) (oSome (eV 19)) oNone δ' M = .ok (.lst (cutD (atoms t) (some i) none)) M := by
          show ((eV 4 δ' M).bind fun x M => ((eV 19 δ' M).bind fun x M => match x with
            | .int i => Res.ok (some i) M
            | _ => .bad).bind fun l M => (Res.ok none M).bind fun h M => slD x l h M) = _
          rw [s4, rb_ok, s19]
          rfl
        show ((eL [(false, (eSl (eV 4) (oSome (eV 19)) oNone))] δ' M).bind fun xs M => _) = _
        rw [eL_one, sl]
        show _ = Res.ok (if (j : Int) = 0 then D.lst (cutD (atoms t) (some i) none) else .lst l) M
        rw [if_pos hj]
        rfl
      · rw [decide_eq_false hj]
        show eList false [(false, eV 18)] δ' M = _
        show ((eL [(false, eV 18)] δ' M).bind fun xs M => _) = _
        rw [eL_one, s18]
        show _ = Res.ok (if (j : Int) = 0 then D.lst (cutD (atoms t) (some i) none) else .lst l) M
        rw [if_neg hj]
        rfl
  rw [row_all] at q
  exact q
theorem more_spec {M : Mem} {s : D} {n t p : Nat} {ls : List (List D)} {a5 a6 a7 a8 a9 a10 a11 a12 a13 a14 a16 a17 : Option D} (ht : t < 3) (hl : ls.length ≤ 4) (hls : ∀ l ∈ ls, l.Sublist (atoms t)) :
    ∃ more : List (List (List D)), more.length ≤ 2 ∧ (∀ o ∈ more, o.length = ls.length ∧ ∀ l ∈ o, l.Sublist (atoms t)) ∧ moreE (SL s n t p a5 a6 a7 a8 a9 a10 a11 a12 a13 a14 (some (lotsD ls)) a16 a17) M = .ok (.lst (osD more)) M := by
  have src : ∃ c : Nat, c ≤ 2 ∧ iRange3 (eC (.int (0))) (eBi .len [(false, (eV 4))]) (eC (.int (2))) (SL s n t p a5 a6 a7 a8 a9 a10 a11 a12 a13 a14 (some (lotsD ls)) a16 a17) M = .ok (rangeC 0 2 c, []) M := by
    match t, ht with
    | 0, _ => exact ⟨1, by omega, rfl⟩
    | 1, _ => exact ⟨1, by omega, rfl⟩
    | 2, _ => exact ⟨2, by omega, rfl⟩
    | t + 3, h => exact absurd h (by omega)
  obtain ⟨c, hc, src⟩ := src
  refine ⟨(List.range c).map fun (i : Nat) => cutO t (0 + (i : Int) * 2) ls, by rw [List.length_map, List.length_range]; exact hc, fun o ho => ?_, ?_⟩
  · obtain ⟨i, _, rfl⟩ := List.mem_map.mp ho
    exact ⟨cutO_len, cutO_sub hls⟩
  · have q := lc_map (M := M) (vs := [19]) (src := iRange3 (eC (.int (0))) (eBi .len [(false, (eV 4))]) (eC (.int (2)))) (tg := .nm 19) (elt := rowE) (g := []) (δ := SL s n t p a5 a6 a7 a8 a9 a10 a11 a12 a13 a14 (some (lotsD ls)) a16 a17) (xs := rangeC 0 2 c) (f := fun d => match d with | .int a => lotsD (cutO t a ls) | _ => .non) src gd_nil
      (by unfold rangeC; rw [List.length_map, List.length_range]; have := lines; omega) fun d hd => by
        obtain ⟨i, _, rfl⟩ := List.mem_map.mp hd
        refine ⟨_, set_nm, ?_⟩
        exact row_spec rfl (by omega) fun a b => ⟨_, rfl, rfl, rfl, rfl, rfl⟩
    have e : (rangeC 0 2 c).map (fun d => match d with | .int a => lotsD (cutO t a ls) | _ => .non) = osD ((List.range c).map fun (i : Nat) => cutO t (0 + (i : Int) * 2) ls) := by
      unfold rangeC osD
      rw [List.map_map, List.map_map]
      rfl
    rw [e] at q
    exact q
theorem os_app {a b : List (List (List D))} : osD a ++ osD b = osD (a ++ b) := by
  unfold osD
  rw [List.map_append]
theorem eBin_ok {op : Operator} {a b : Den} {δ : Slots} {M M1 M2 : Mem} {x y : D} {r : Res D} (ha : a δ M = .ok x M1) (hb : b δ M1 = .ok y M2) (hr : binD op x y M2 = r) : eBin op a b δ M = r := by
  show ((a δ M).bind fun x M => (b δ M).bind fun y M => binD op x y M) = r
  rw [ha, rb_ok, hb, rb_ok, hr]
theorem sSet_ok {i : Nat} {e : Den} {δ : Slots} {M M1 : Mem} {x : D} (h : e δ M = .ok x M1) : sSet (.nm i) e δ M = .ok (.nx (δ.set i (some x))) M1 := by
  show ((e δ M).bind fun x M => match setT (.nm i) x δ with
    | some δ => Res.ok (Fl.nx δ) M
    | none => .bad) = _
  rw [h]
  rfl
theorem add_seq {a b : D} {M : Mem} {xs ys : List D} (ha : seqOf M a = some xs) (hb : seqOf M b = some ys) (hl : xs.length + ys.length ≤ sizeLine) : addD a b M = .ok (.lst (xs ++ ys)) M := by
  have g : guardR (decide (xs.length + ys.length ≤ sizeLine)) (.lst (xs ++ ys)) M = .ok (.lst (xs ++ ys)) M := g_true' (decide_eq_true hl)
  have e : (match seqOf M a, seqOf M b with
    | some a, some b => guardR (decide (a.length + b.length ≤ sizeLine)) (.lst (a ++ b)) M
    | _, _ => .bad) = Res.ok (D.lst (xs ++ ys)) M := by
    rw [ha, hb]
    exact g
  cases a with
  | lst _ => exact e
  | ref _ => exact e
  | _ => cases ha
theorem seg4 {s : D} {n t p m : Nat} {B : Int} {M : Mem} {ls : List (List D)} {os : List (List (List D))} {a5 a6 a7 a8 a9 a10 a11 a12 a13 a14 a17 : Option D} (h4 : ls.length ≤ 4) (hls : ∀ l ∈ ls, l.Sublist (atoms t)) (hn : n ≠ m) (hp : Pu M n B) (hB : B < 2 ^ 40) (hm : lstAt M m = some (osD os)) (hf : os.length ≤ 7) (hos : ∀ o ∈ os, o.length = ls.length ∧ ∀ l ∈ o, l.Sublist (atoms t)) :
    ∃ (od : D) (os' : List (List (List D))) (M' : Mem), q4 (callD cfg 99) (SL s n t p a5 a6 a7 a8 a9 a10 a11 a12 a13 a14 (some (lotsD ls)) (some (.ref m)) a17) M = .ok (.nx (SL s n t p a5 a6 a7 a8 a9 a10 a11 a12 a13 a14 (some (lotsD ls)) (some od) a17)) M' ∧
      os'.length ≤ 9 ∧ (∀ o ∈ os', o.length = ls.length ∧ ∀ l ∈ o, l.Sublist (atoms t)) ∧ seqOf M' od = some (osD os') ∧ (∀ k, od = .ref k → k = m) ∧ Pu M' n (B + 1) ∧ But M M' n := by
  have t1 : tCmp .Lt (eV 2) (eC (.int (3))) (SL s n t p a5 a6 a7 a8 a9 a10 a11 a12 a13 a14 (some (lotsD ls)) (some (.ref m)) a17) M = .ok (decide ((t : Int) < 3)) M := rfl
  by_cases h3 : (t : Int) < 3
  · obtain ⟨v, M1, d1, d2, d3, d4, d5⟩ := draw_call (δ := SL s n t p a5 a6 a7 a8 a9 a10 a11 a12 a13 a14 (some (lotsD ls)) (some (.ref m)) a17) (d := eC (.int 2)) rfl rfl hp (by omega) (by decide)
    have hm1 : lstAt M1 m = some (osD os) := by
      refine lstAt_of ?_
      rw [d5.2 m (Ne.symm hn)]
      exact lstAt_some hm
    have t2 : tCmp .Eq (drawE (callD cfg 99) (eC (.int 2))) (eC (.int 0)) (SL s n t p a5 a6 a7 a8 a9 a10 a11 a12 a13 a14 (some (lotsD ls)) (some (.ref m)) a17) M = .ok (decide (v = 0)) M1 := by
      show ((drawE (callD cfg 99) (eC (.int 2)) _ M).bind fun x M => (Res.ok (.int 0) M).bind fun y M => optB (cmpD .Eq x y M) M) = _
      rw [d1, rb_ok, rb_ok]
      have e : cmpD .Eq (.int v) (.int 0) M1 = eqD (.int v) (.int 0) M1 := rfl
      rw [e, eq_int]
      rfl
    have tt : tAnd (tCmp .Lt (eV 2) (eC (.int (3)))) (tCmp .Eq (drawE (callD cfg 99) (eC (.int 2))) (eC (.int 0))) (SL s n t p a5 a6 a7 a8 a9 a10 a11 a12 a13 a14 (some (lotsD ls)) (some (.ref m)) a17) M = .ok (decide (v = 0)) M1 := by
      show ((tCmp .Lt (eV 2) (eC (.int (3))) _ M).bind fun b M => if b then tCmp .Eq (drawE (callD cfg 99) (eC (.int 2))) (eC (.int 0)) _ M else .ok false M) = _
      rw [t1, rb_ok, decide_eq_true h3]
      exact t2
    by_cases hv : v = 0
    · obtain ⟨more, m1, m2, m3⟩ := more_spec (M := M1) (s := s) (n := n) (p := p) (a5 := a5) (a6 := a6) (a7 := a7) (a8 := a8) (a9 := a9) (a10 := a10) (a11 := a11) (a12 := a12) (a13 := a13) (a14 := a14) (a16 := some (.ref m)) (a17 := a17) (by omega) h4 hls
      have lo : ∀ os : List (List (List D)), (osD os).length = os.length := fun os => by unfold osD; rw [List.length_map]
      have ad : addD (.ref m) (.lst (osD more)) M1 = .ok (.lst (osD (os ++ more))) M1 := by
        rw [add_seq (M := M1) (a := .ref m) (b := .lst (osD more)) (xs := osD os) (ys := osD more) hm1 rfl (by rw [lo, lo]; have := lines; omega)]
        rw [os_app]
      refine ⟨.lst (osD (os ++ more)), os ++ more, M1, ?_, by simp; omega, fun o ho => (List.mem_append.mp ho).elim (hos o) (m2 o), rfl, (fun k h => by cases h), d4, d5⟩
      show ((tAnd (tCmp .Lt (eV 2) (eC (.int (3)))) (tCmp .Eq (drawE (callD cfg 99) (eC (.int 2))) (eC (.int 0))) (SL s n t p a5 a6 a7 a8 a9 a10 a11 a12 a13 a14 (some (lotsD ls)) (some (.ref m)) a17) M).bind fun c M => if c then sSet (.nm 16) (eBin .Add (eV 16) moreE) (SL s n t p a5 a6 a7 a8 a9 a10 a11 a12 a13 a14 (some (lotsD ls)) (some (.ref m)) a17) M else sNx (SL s n t p a5 a6 a7 a8 a9 a10 a11 a12 a13 a14 (some (lotsD ls)) (some (.ref m)) a17) M) = _
      rw [tt, rb_ok, decide_eq_true hv, if_pos rfl]
      exact sSet_ok (eBin_ok (op := .Add) (r := .ok (.lst (osD (os ++ more))) M1) rfl m3 ad)
    · refine ⟨.ref m, os, M1, ?_, by omega, hos, hm1, (fun k h => by cases h; rfl), d4, d5⟩
      show ((tAnd (tCmp .Lt (eV 2) (eC (.int (3)))) (tCmp .Eq (drawE (callD cfg 99) (eC (.int 2))) (eC (.int 0))) (SL s n t p a5 a6 a7 a8 a9 a10 a11 a12 a13 a14 (some (lotsD ls)) (some (.ref m)) a17) M).bind fun c M => if c then sSet (.nm 16) (eBin .Add (eV 16) moreE) (SL s n t p a5 a6 a7 a8 a9 a10 a11 a12 a13 a14 (some (lotsD ls)) (some (.ref m)) a17) M else sNx (SL s n t p a5 a6 a7 a8 a9 a10 a11 a12 a13 a14 (some (lotsD ls)) (some (.ref m)) a17) M) = _
      rw [tt, rb_ok, decide_eq_false hv]
      rfl
  · refine ⟨.ref m, os, M, ?_, by omega, hos, hm, (fun k h => by cases h; rfl), hp.mono (by omega), But.refl _ _⟩
    show (((tCmp .Lt (eV 2) (eC (.int (3))) (SL s n t p a5 a6 a7 a8 a9 a10 a11 a12 a13 a14 (some (lotsD ls)) (some (.ref m)) a17) M).bind fun b M => if b then tCmp .Eq (drawE (callD cfg 99) (eC (.int 2))) (eC (.int 0)) (SL s n t p a5 a6 a7 a8 a9 a10 a11 a12 a13 a14 (some (lotsD ls)) (some (.ref m)) a17) M else .ok false M).bind fun c M => if c then sSet (.nm 16) (eBin .Add (eV 16) moreE) (SL s n t p a5 a6 a7 a8 a9 a10 a11 a12 a13 a14 (some (lotsD ls)) (some (.ref m)) a17) M else sNx (SL s n t p a5 a6 a7 a8 a9 a10 a11 a12 a13 a14 (some (lotsD ls)) (some (.ref m)) a17) M) = _
    rw [t1, rb_ok, decide_eq_false h3]
    rfl
end K78
set_option Elab.async false
set_option linter.all false
set_option maxRecDepth 100000
set_option maxHeartbeats 4000000
/-! F78: the law's body: what is told, held against what is due. -/
namespace K78
open PySem Ev
theorem call_kw {call : List D → Mem → Res D} {l : List (Str × Option D)} {ks : List Str} {kws : List (Bool × Den)} {δ : Slots} {M M' : Mem} {ws ys : List D} (hk : ks.all (l.map (·.1)).contains = true) (h : eL kws δ M = .ok ws M') (hl : arrGo l [] (ks.zip ws) = some ys) : eCall call l [] ks kws δ M = noErr (call ys M') := by
  show (if !ks.all (l.map (·.1)).contains then Res.bad else (eL [] δ M).bind fun vs M => (eL kws δ M).bind fun ws M => match arrGo l vs (ks.zip ws) with
  | some ds => noErr (call ds M)
  | none => .bad) = _
  rw [hk]
  show ((eL kws δ M).bind fun ws M => match arrGo l [] (ks.zip ws) with
  | some ds => noErr (call ds M)
  | none => .bad) = _
  rw [h]
  show (match arrGo l [] (ks.zip ws) with
  | some ds => noErr (call ds M')
  | none => .bad) = _
  rw [hl]
theorem Up.shows {M M' : Mem} (a : Up M M') {v : D} : ∀ {r : Option (List D)}, Shows M v r → Shows M' v r
  | none, h => h
  | some p, h => a.seq h
theorem isnot_shows {M : Mem} {v : D} {r : Option (List D)} (h : Shows M v r) : cmpD .IsNot v .non M = some r.isSome := by
  cases r with
  | none =>
    have e : v = .non := h
    subst e
    rfl
  | some p =>
    have sq : seqOf M v = some p := h
    cases v with
    | lst ys => rfl
    | ref j =>
      have e := lstAt_some (show lstAt M j = some p from sq)
      show ((match M[j]? with
        | some .dead => none
        | none => none
        | some _ => some false : Option Bool)).map (!·) = _
      rw [e]
      rfl
    | _ => cases sq
theorem gone_at {t n : Nat} {ls : List (List D)} {os : List (List (List D))} {od : D} {M : Mem} (w : Wd t n ls os) (hn : n ≤ 12) (ho : seqOf M od = some (osD os)) : callD cfg 99 "_law_gone_through" [lotsD ls, od, .int 0, .lst []] M = .ok (toD [] (through ls 0 os)) M := by
  have q := gone_spec (98 - n) M ls n (fun l hl => pa_sub (w.lot l hl)) w.len (by omega) n 0 (by omega) os od [] w.ok (oth_seq w.ok ho) (by simp)
  have e : n + 1 + (98 - n) = 99 := by omega
  rw [e, List.drop_zero] at q
  exact q
theorem sIf_no {t : DenB} {a : DenS} {δ : Slots} {M M' : Mem} (h : t δ M = .ok false M') : sIf t a sNx δ M = .ok (.nx δ) M' := by
  show ((t δ M).bind fun c M => if c then a δ M else sNx δ M) = _
  rw [h]
  rfl
theorem tNot_ok {t : DenB} {δ : Slots} {M M' : Mem} {b : Bool} (h : t δ M = .ok b M') : tNot t δ M = .ok (!b) M' := by
  show ((t δ M).bind fun b M => Res.ok (!b) M) = _
  rw [h]
  rfl
theorem tD_bl {e : Den} {δ : Slots} {M M' : Mem} {b : Bool} (h : e δ M = .ok (.bl b) M') : tD e δ M = .ok b M' := by
  show ((e δ M).bind fun x M => optB (truthD M x) M) = _
  rw [h]
  rfl
theorem tOr_ff {t u : DenB} {δ : Slots} {M M1 M2 : Mem} {b : Bool} (h : t δ M = .ok false M1) (h2 : u δ M1 = .ok b M2) : tBool .Or [t, u] δ M = .ok b M2 := by
  show ((t δ M).bind fun b M => if b then Res.ok true M else u δ M) = _
  rw [h]
  exact h2
theorem tAnd_f {t u : DenB} {δ : Slots} {M M1 : Mem} (h : t δ M = .ok false M1) : tBool .And [t, u] δ M = .ok false M1 := by
  show ((t δ M).bind fun b M => if b then u δ M else Res.ok false M) = _
  rw [h]
  rfl
theorem tAnd_t {t u : DenB} {δ : Slots} {M M1 M2 : Mem} {b : Bool} (h : t δ M = .ok true M1) (h2 : u δ M1 = .ok b M2) : tBool .And [t, u] δ M = .ok b M2 := by
  show ((t δ M).bind fun b M => if b then u δ M else Res.ok false M) = _
  rw [h]
  exact h2
theorem tCmp_ok {op : CmpOp} {a b : Den} {δ : Slots} {M M1 M2 : Mem} {x y : D} {c : Bool} (ha : a δ M = .ok x M1) (hb : b δ M1 = .ok y M2) (hr : cmpD op x y M2 = some c) : tCmp op a b δ M = .ok c M2 := by
  show ((a δ M).bind fun x M => (b δ M).bind fun y M => optB (cmpD op x y M) M) = _
  rw [ha, rb_ok, hb, rb_ok, hr]
  rfl
theorem reprE_ok {s : D} {n t p many : Nat} {M : Mem} {ls : List (List D)} {os : List (List (List D))} {od : D} {a5 a6 a7 a8 a9 a10 a11 a12 a13 a14 a17 : Option D} (ht : t < 5) (hp : p < 2) (hm : many ≤ 12) (w : Wd t many ls os) (ho : seqOf M od = some (osD os)) :
    eBi .repr [(false, (eLst false [(false, (eV 3)), (false, (eV 15)), (false, (eV 16))]))] (SL s n t p a5 a6 a7 a8 a9 a10 a11 a12 a13 a14 (some (lotsD ls)) (some od) a17) M = .ok (.str (repP t p ls os).shown) M := by
  have q := (repr_spec ht hp hm w ho).1
  show (match reprD M (.lst [speech t p, lotsD ls, od]) with
    | some s => Res.ok (D.str s) M
    | none => .bad) = _
  rw [q]
theorem seg5 {s : D} {n t p many : Nat} {M : Mem} {ls : List (List D)} {os : List (List (List D))} {od : D} {a5 a6 a7 a8 a9 a10 a11 a12 a13 a14 a17 : Option D} (ht : t < 5) (hp : p < 2) (hm : many ≤ 12) (w : Wd t many ls os) (ho : seqOf M od = some (osD os)) :
    q5 (callD cfg 99) (SL s n t p a5 a6 a7 a8 a9 a10 a11 a12 a13 a14 (some (lotsD ls)) (some od) a17) M = .ok (.nx (SL s n t p a5 a6 a7 a8 a9 a10 a11 a12 (some (toD [] (through ls 0 os))) a14 (some (lotsD ls)) (some od) (some (.str (repP t p ls os).shown)))) M := by
  have r := reprE_ok (s := s) (n := n) (a5 := a5) (a6 := a6) (a7 := a7) (a8 := a8) (a9 := a9) (a10 := a10) (a11 := a11) (a12 := a12) (a13 := a13) (a14 := a14) (a17 := a17) ht hp hm w ho
  have c : eCall (callD cfg 99 "_law_gone_through") (withDfl ["lots", "others", "at", "lead"] []) [(false, (eV 15)), (false, (eV 16)), (false, (eC (.int (0)))), (false, (eLst false []))] [] [] (SL s n t p a5 a6 a7 a8 a9 a10 a11 a12 a13 a14 (some (lotsD ls)) (some od) a17) M = .ok (toD [] (through ls 0 os)) M := by
    rw [call_pos (xs := [lotsD ls, od, .int 0, .lst []]) (ys := [lotsD ls, od, .int 0, .lst []]) (M' := M) rfl rfl, gone_at w hm ho]
    rfl
  show ((eBi .repr [(false, (eLst false [(false, (eV 3)), (false, (eV 15)), (false, (eV 16))]))] (SL s n t p a5 a6 a7 a8 a9 a10 a11 a12 a13 a14 (some (lotsD ls)) (some od) a17) M).bind fun x M => (eCall (callD cfg 99 "_law_gone_through") (withDfl ["lots", "others", "at", "lead"] []) [(false, (eV 15)), (false, (eV 16)), (false, (eC (.int (0)))), (false, (eLst false []))] [] [] (SL s n t p a5 a6 a7 a8 a9 a10 a11 a12 a13 a14 (some (lotsD ls)) (some od) a17) M).bind fun y M => _) = _
  rw [r, rb_ok, c]
  rfl
abbrev firstE (call : Call) (a b : Den) : Den := eCall (call "first_outside") (withDfl ["speech", "lots", "others"] []) [(false, (eV 3)), (false, a), (false, b)] [] []
theorem first_call {δ : Slots} {t p n : Nat} (ht : t < 5) (hp : p < 2) (h0 : 0 < n) (hn : n ≤ 12) {ls : List (List D)} {os : List (List (List D))} {od : D} {a b : Den} (w : Wd t n ls os) {M : Mem} (ho : seqOf M od = some (osD os)) (h3 : eV 3 δ M = .ok (speech t p) M) (ha : a δ M = .ok (lotsD ls) M) (hb : b δ M = .ok od M) :
    ∃ v M', firstE (callD cfg 99) a b δ M = .ok v M' ∧ Up M M' ∧ Shows M' v (through ls 0 os) ∧ ∀ p, through ls 0 os = some p → ∃ m, M.length ≤ m ∧ v = .ref m := by
  obtain ⟨v, M', c1, c2, c3, c4⟩ := first_spec (K := 99) ht hp h0 hn w M ho (by omega)
  refine ⟨v, M', ?_, c2, c3, c4⟩
  show eCall (callD cfg 99 "first_outside") (withDfl ["speech", "lots", "others"] []) [(false, (eV 3)), (false, a), (false, b)] [] [] δ M = _
  rw [call_pos (xs := [speech t p, lotsD ls, od]) (ys := [speech t p, lotsD ls, od]) (M' := M) ?_ rfl, c1]
  · rfl
  · rw [eL_one, h3, rb_ok, eL_one, ha, rb_ok, eL_one, hb, rb_ok]
    rfl
theorem seg6 {s : D} {n t p many : Nat} {M : Mem} {ls : List (List D)} {os : List (List (List D))} {od : D} {a5 a6 a7 a8 a9 a10 a11 a12 a13 a14 a17 : Option D} (ht : t < 5) (hp : p < 2) (h0 : 0 < many) (hm : many ≤ 12) (w : Wd t many ls os) (ho : seqOf M od = some (osD os)) :
    ∃ (v1 v2 : D) (M' : Mem), q6 (callD cfg 99) (SL s n t p a5 a6 a7 a8 a9 a10 a11 a12 a13 a14 (some (lotsD ls)) (some od) a17) M = .ok (.nx (SL s n t p a5 a6 a7 (some (.lst [v1, v2])) a9 a10 a11 a12 a13 a14 (some (lotsD ls)) (some od) a17)) M' ∧
      Up M M' ∧ Shows M' v1 (through ls 0 os) ∧ Shows M' v2 (through ls 0 os) ∧ ∀ p, through ls 0 os = some p → ∃ m, M.length ≤ m ∧ v1 = .ref m := by
  obtain ⟨v1, M1, c1, c2, c3, c4⟩ := first_call (δ := SL s n t p a5 a6 a7 a8 a9 a10 a11 a12 a13 a14 (some (lotsD ls)) (some od) a17) (a := eV 15) (b := eV 16) ht hp h0 hm w ho rfl rfl rfl
  obtain ⟨v2, M2, d1, d2, d3, d4⟩ := first_spec (K := 99) ht hp h0 hm w M1 (c2.seq ho) (by omega)
  refine ⟨v1, v2, M2, ?_, c2.trans d2, d2.shows c3, d3, c4⟩
  have k2 : eCall (callD cfg 99 "first_outside") (withDfl ["speech", "lots", "others"] []) [] ["others", "lots", "speech"] [(false, (eV 16)), (false, (eV 15)), (false, (eV 3))] (SL s n t p a5 a6 a7 a8 a9 a10 a11 a12 a13 a14 (some (lotsD ls)) (some od) a17) M1 = .ok v2 M2 := by
    rw [call_kw (ws := [od, lotsD ls, speech t p]) (ys := [speech t p, lotsD ls, od]) (M' := M1) (by decide +kernel) rfl rfl, d1]
    rfl
  have c1 : eCall (callD cfg 99 "first_outside") (withDfl ["speech", "lots", "others"] []) [(false, (eV 3)), (false, (eV 15)), (false, (eV 16))] [] [] (SL s n t p a5 a6 a7 a8 a9 a10 a11 a12 a13 a14 (some (lotsD ls)) (some od) a17) M = .ok v1 M1 := c1
  have l : eLst false [(false, (eCall (callD cfg 99 "first_outside") (withDfl ["speech", "lots", "others"] []) [(false, (eV 3)), (false, (eV 15)), (false, (eV 16))] [] [])), (false, (eCall (callD cfg 99 "first_outside") (withDfl ["speech", "lots", "others"] []) [] ["others", "lots", "speech"] [(false, (eV 16)), (false, (eV 15)), (false, (eV 3))]))] (SL s n t p a5 a6 a7 a8 a9 a10 a11 a12 a13 a14 (some (lotsD ls)) (some od) a17) M = .ok (.lst [v1, v2]) M2 := by
    show ((eL _ _ M).bind fun xs M => if xs.length ≤ sizeLine then newL false xs M else .bad) = _
    rw [eL_one, c1, rb_ok, eL_one, k2]
    rfl
  exact sSet_ok l
theorem seg7 {s : D} {n t p many : Nat} {M : Mem} {ls : List (List D)} {os : List (List (List D))} {od v1 v2 : D} {a5 a6 a7 a9 a10 a11 a12 a14 : Option D} (ht : t < 5) (hp : p < 2) (hm : many ≤ 12) (w : Wd t many ls os) (ho : seqOf M od = some (osD os)) (s1 : Shows M v1 (through ls 0 os)) (s2 : Shows M v2 (through ls 0 os)) :
    q7 (callD cfg 99) (SL s n t p a5 a6 a7 (some (.lst [v1, v2])) a9 a10 a11 a12 (some (toD [] (through ls 0 os))) a14 (some (lotsD ls)) (some od) (some (.str (repP t p ls os).shown))) M = .ok (.nx (SL s n t p a5 a6 a7 (some (.lst [v1, v2])) a9 a10 a11 a12 (some (toD [] (through ls 0 os))) a14 (some (lotsD ls)) (some od) (some (.str (repP t p ls os).shown)))) M := by
  have hr : ∀ q, through ls 0 os = some q → q.length ≤ 400 ∧ ∀ x ∈ q, x ∈ atoms t := fun q hq => by
    obtain ⟨h1, h2, _⟩ := through_out ls 0 os q hq
    refine ⟨by rw [h1, w.len]; omega, fun x hx => ?_⟩
    obtain ⟨l, hl, hxl⟩ := h2 x hx
    exact (w.lot l hl).subset hxl
  have sm : callD cfg 99 "_law_same" [.lst [v1, v2], .lst [toD [] (through ls 0 os), toD [] (through ls 0 os)]] M = .ok (.bl true) M := same_two 98 (same_shows 95 ht s1 hr) (same_shows 95 ht s2 hr)
  have c : eCall (callD cfg 99 "_law_same") (withDfl ["told", "due"] []) [(false, (eV 8)), (false, (eLst false [(false, (eV 13)), (false, (eV 13))]))] [] [] (SL s n t p a5 a6 a7 (some (.lst [v1, v2])) a9 a10 a11 a12 (some (toD [] (through ls 0 os))) a14 (some (lotsD ls)) (some od) (some (.str (repP t p ls os).shown))) M = .ok (.bl true) M := by
    rw [call_pos (xs := [.lst [v1, v2], .lst [toD [] (through ls 0 os), toD [] (through ls 0 os)]]) (ys := [.lst [v1, v2], .lst [toD [] (through ls 0 os), toD [] (through ls 0 os)]]) (M' := M) rfl rfl, sm]
    rfl
  have r := reprE_ok (s := s) (n := n) (a5 := a5) (a6 := a6) (a7 := a7) (a8 := some (.lst [v1, v2])) (a9 := a9) (a10 := a10) (a11 := a11) (a12 := a12) (a13 := some (toD [] (through ls 0 os))) (a14 := a14) (a17 := some (.str (repP t p ls os).shown)) ht hp hm w ho
  have pl := (repr_spec ht hp hm w ho).2
  have ne : cmpD .NotEq (.str (repP t p ls os).shown) (.str (repP t p ls os).shown) M = some false := by
    show (eqD (.str (repP t p ls os).shown) (.str (repP t p ls os).shown) M).map (!·) = _
    have pd := pd_of (M := M) 1 _ pl
    rw [eqD_pd pd pd (by omega) (by omega), eqv_self _ pd.2.1]
    rfl
  exact sIf_no (tOr_ff (tNot_ok (tD_bl c)) (tCmp_ok r rfl ne))
end K78
set_option Elab.async false
set_option linter.all false
set_option maxRecDepth 100000
set_option maxHeartbeats 4000000
/-! G78: the law's body: is it outside; what is told stays when it is spoilt. -/
namespace K78
open PySem Ev
theorem eIx8 {s : D} {n t p : Nat} {M : Mem} {v1 v2 : D} {a5 a6 a7 a9 a10 a11 a12 a13 a14 a15 a16 a17 : Option D} : eIx (eV 8) (eC (.int 0)) (SL s n t p a5 a6 a7 (some (.lst [v1, v2])) a9 a10 a11 a12 a13 a14 a15 a16 a17) M = .ok v1 M := rfl
theorem seg8 {s : D} {n t p many : Nat} {M : Mem} {ls : List (List D)} {os : List (List (List D))} {od v1 v2 : D} {a5 a6 a7 a9 a10 a11 a12 a13 a14 a17 : Option D} (hm : many ≤ 12) (w : Wd t many ls os) (ho : seqOf M od = some (osD os)) (s1 : Shows M v1 (through ls 0 os)) :
    q8 (callD cfg 99) (SL s n t p a5 a6 a7 (some (.lst [v1, v2])) a9 a10 a11 a12 a13 a14 (some (lotsD ls)) (some od) a17) M = .ok (.nx (SL s n t p a5 a6 a7 (some (.lst [v1, v2])) a9 a10 a11 a12 a13 a14 (some (lotsD ls)) (some od) a17)) M := by
  have t1 : tCmp .IsNot (eIx (eV 8) (eC (.int 0))) (eC .non) (SL s n t p a5 a6 a7 (some (.lst [v1, v2])) a9 a10 a11 a12 a13 a14 (some (lotsD ls)) (some od) a17) M = .ok (through ls 0 os).isSome M := tCmp_ok eIx8 rfl (isnot_shows s1)
  cases hr : through ls 0 os with
  | none =>
    rw [hr] at t1
    exact sIf_no (tAnd_f t1)
  | some q =>
    rw [hr] at t1 s1
    obtain ⟨h1, h2, h3⟩ := through_out ls 0 os q hr
    have sq : seqOf M v1 = some q := s1
    have io := is_outside_spec 98 (t := t) (n := many) sq (fun x hx => by
      obtain ⟨l, hl, hxl⟩ := h2 x hx
      exact (w.lot l hl).subset hxl) (by rw [h1, w.len]) hm w.olen w.olot w.few ho fun o hoo => by
        obtain ⟨j, x, a, b⟩ := h3 o hoo
        rw [Nat.zero_add] at b
        exact ⟨j, x, a, b⟩
    have io : callD cfg 99 "_law_is_outside" [v1, od] M = .ok (.bl true) M := io
    have c : eCall (callD cfg 99 "_law_is_outside") (withDfl ["atoms", "others"] []) [(false, (eIx (eV 8) (eC (.int (0))))), (false, (eV 16))] [] [] (SL s n t p a5 a6 a7 (some (.lst [v1, v2])) a9 a10 a11 a12 a13 a14 (some (lotsD ls)) (some od) a17) M = .ok (.bl true) M := by
      rw [call_pos (xs := [v1, od]) (ys := [v1, od]) (M' := M) rfl rfl, io]
      rfl
    exact sIf_no (tAnd_t t1 (tNot_ok (tD_bl c)))
/-- the first L objects stay -/
structure Stay (L : Nat) (M M' : Mem) : Prop where
  len : M.length ≤ M'.length
  old : ∀ j, j < L → M'[j]? = M[j]?
theorem seg9 {s : D} {n t p many L : Nat} {M : Mem} {ls : List (List D)} {os : List (List (List D))} {od v1 v2 : D} {a5 a6 a7 a9 a10 a11 a12 a14 a17 : Option D} (ht : t < 5) (hp : p < 2) (h0 : 0 < many) (hm : many ≤ 12) (w : Wd t many ls os) (hL : L ≤ M.length) (ho : seqOf M od = some (osD os)) (hod : ∀ k, od = .ref k → k < L) (s1 : Shows M v1 (through ls 0 os)) (fr : ∀ q, through ls 0 os = some q → ∃ m, L ≤ m ∧ v1 = .ref m) :
    ∃ M', q9 (callD cfg 99) (SL s n t p a5 a6 a7 (some (.lst [v1, v2])) a9 a10 a11 a12 (some (toD [] (through ls 0 os))) a14 (some (lotsD ls)) (some od) a17) M = .ok (.nx (SL s n t p a5 a6 a7 (some (.lst [v1, v2])) a9 a10 a11 a12 (some (toD [] (through ls 0 os))) a14 (some (lotsD ls)) (some od) a17)) M' ∧ Stay L M M' := by
  have t1 : tCmp .IsNot (eIx (eV 8) (eC (.int 0))) (eC .non) (SL s n t p a5 a6 a7 (some (.lst [v1, v2])) a9 a10 a11 a12 (some (toD [] (through ls 0 os))) a14 (some (lotsD ls)) (some od) a17) M = .ok (through ls 0 os).isSome M := tCmp_ok eIx8 rfl (isnot_shows s1)
  cases hr : through ls 0 os with
  | none =>
    rw [hr] at t1
    exact ⟨M, sIf_no t1, Nat.le_refl _, fun _ _ => rfl⟩
  | some q =>
    obtain ⟨m, m1, rfl⟩ := fr q hr
    rw [hr] at t1 s1
    have sq : lstAt M m = some q := s1
    obtain ⟨h1, h2, h3⟩ := through_out ls 0 os q hr
    have hr' : ∀ q', through ls 0 os = some q' → q'.length ≤ 400 ∧ ∀ x ∈ q', x ∈ atoms t := fun q' hq => by
      obtain ⟨h1, h2, _⟩ := through_out ls 0 os q' hq
      refine ⟨by rw [h1, w.len]; omega, fun x hx => ?_⟩
      obtain ⟨l, hl, hxl⟩ := h2 x hx
      exact (w.lot l hl).subset hxl
    generalize hδ : SL s n t p a5 a6 a7 (some (.lst [.ref m, v2])) a9 a10 a11 a12 (some (toD [] (some q))) a14 (some (lotsD ls)) (some od) a17 = δ at t1
    have e8 : ∀ M, eIx (eV 8) (eC (.int 0)) δ M = .ok (.ref m) M := fun M => by rw [← hδ]; rfl
    have ap : eAppend (eIx (eV 8) (eC (.int 0))) (eC (.str "spoilt")) δ M = .ok .non (M.set m (.lst (q ++ [D.str "spoilt"]))) := by
      show ((eIx (eV 8) (eC (.int 0)) δ M).bind fun x M => match x with
        | .ref n => (match lstAt M n with
          | some _ => (Res.ok (D.str "spoilt") M).bind fun v M => (match lstAt M n with
            | some ys => if ys.length < sizeLine then Res.ok D.non (M.set n (.lst (ys ++ [v]))) else .bad
            | none => .bad)
          | none => .bad)
        | _ => .bad) = _
      rw [e8, rb_ok]
      show (match lstAt M m with
          | some _ => (match lstAt M m with
            | some ys => if ys.length < sizeLine then Res.ok D.non (M.set m (.lst (ys ++ [D.str "spoilt"]))) else .bad
            | none => .bad)
          | none => .bad) = _
      rw [sq]
      show (if q.length < sizeLine then Res.ok D.non (M.set m (.lst (q ++ [D.str "spoilt"]))) else .bad) = _
      rw [if_pos (by rw [h1, w.len]; have := lines; omega)]
    have ho' : seqOf (M.set m (.lst (q ++ [D.str "spoilt"]))) od = some (osD os) := by
      cases od with
      | lst ys => exact ho
      | ref k =>
        have kl := hod k rfl
        refine lstAt_of ?_
        rw [List.getElem?_set_ne (by omega)]
        exact lstAt_some ho
      | _ => cases ho
    obtain ⟨v, M2, c1, c2, c3, c4⟩ := first_call (δ := δ) (a := eV 15) (b := eV 16) ht hp h0 hm w ho' (by rw [← hδ]; rfl) (by rw [← hδ]; rfl) (by rw [← hδ]; rfl)
    have c1 : eCall (callD cfg 99 "first_outside") (withDfl ["speech", "lots", "others"] []) [(false, (eV 3)), (false, (eV 15)), (false, (eV 16))] [] [] δ (M.set m (.lst (q ++ [D.str "spoilt"]))) = .ok v M2 := c1
    have sm : callD cfg 99 "_law_same" [v, toD [] (through ls 0 os)] M2 = .ok (.bl true) M2 := same_shows 96 ht c3 hr'
    rw [hr] at sm
    have e13 : eV 13 δ M2 = .ok (toD [] (some q)) M2 := by rw [← hδ]; rfl
    have c : eCall (callD cfg 99 "_law_same") (withDfl ["told", "due"] []) [(false, (eCall (callD cfg 99 "first_outside") (withDfl ["speech", "lots", "others"] []) [(false, (eV 3)), (false, (eV 15)), (false, (eV 16))] [] [])), (false, (eV 13))] [] [] δ (M.set m (.lst (q ++ [D.str "spoilt"]))) = .ok (.bl true) M2 := by
      rw [call_pos (xs := [v, toD [] (some q)]) (ys := [v, toD [] (some q)]) (M' := M2) ?_ rfl, sm]
      · rfl
      · rw [eL_one, c1, rb_ok, eL_one, e13]
        rfl
    refine ⟨M2, ?_, ?_, fun j hj => ?_⟩
    · show ((tCmp .IsNot (eIx (eV 8) (eC (.int (0)))) (eC .non) δ M).bind fun c M => if c then (sSeq (sDrop (eAppend (eIx (eV 8) (eC (.int (0)))) (eC (.str "spoilt"))))
        (sIf (tNot (tD (eCall (callD cfg 99 "_law_same") (withDfl ["told", "due"] []) [(false, (eCall (callD cfg 99 "first_outside") (withDfl ["speech", "lots", "others"] []) [(false, (eV 3)), (false, (eV 15)), (false, (eV 16))] [] [])), (false, (eV 13))] [] [])))
        (sRet (eC (.bl false)))
        sNx)) δ M else sNx δ M) = _
      rw [t1, rb_ok]
      show ((sDrop (eAppend (eIx (eV 8) (eC (.int (0)))) (eC (.str "spoilt"))) δ M).bind fun f M => match f with
        | .nx δ => sIf (tNot (tD (eCall (callD cfg 99 "_law_same") (withDfl ["told", "due"] []) [(false, (eCall (callD cfg 99 "first_outside") (withDfl ["speech", "lots", "others"] []) [(false, (eV 3)), (false, (eV 15)), (false, (eV 16))] [] [])), (false, (eV 13))] [] []))) (sRet (eC (.bl false))) sNx δ M
        | f => .ok f M) = _
      have dr : sDrop (eAppend (eIx (eV 8) (eC (.int (0)))) (eC (.str "spoilt"))) δ M = .ok (.nx δ) (M.set m (.lst (q ++ [D.str "spoilt"]))) := by
        show ((eAppend (eIx (eV 8) (eC (.int (0)))) (eC (.str "spoilt")) δ M).bind fun _ M => Res.ok (Fl.nx δ) M) = _
        rw [ap]
        rfl
      rw [dr, rb_ok]
      show sIf (tNot (tD (eCall (callD cfg 99 "_law_same") (withDfl ["told", "due"] []) [(false, (eCall (callD cfg 99 "first_outside") (withDfl ["speech", "lots", "others"] []) [(false, (eV 3)), (false, (eV 15)), (false, (eV 16))] [] [])), (false, (eV 13))] [] []))) (sRet (eC (.bl false))) sNx δ (M.set m (.lst (q ++ [D.str "spoilt"]))) = _
      exact sIf_no (tNot_ok (tD_bl c))
    · have := c2.len
      rw [List.length_set] at this
      exact this
    · rw [c2.old j (by rw [List.length_set]; omega), List.getElem?_set_ne (by omega)]
end K78
set_option Elab.async false
set_option linter.all false
set_option maxRecDepth 100000
set_option maxHeartbeats 4000000
/-! I78: the law's body: wide lots. -/
namespace K78
open PySem Ev
theorem atoms_head {t : Nat} (ht : t < 5) : ∃ a0 A', atoms t = a0 :: A' := by
  match t, ht with
  | 0, _ => exact ⟨_, _, rfl⟩
  | 1, _ => exact ⟨_, _, rfl⟩
  | 2, _ => exact ⟨_, _, rfl⟩
  | 3, _ => exact ⟨_, _, rfl⟩
  | 4, _ => exact ⟨_, _, rfl⟩
  | t + 5, h => exact absurd h (by omega)
theorem atoms_has {t : Nat} : ∀ x ∈ atoms t, hasA x (atoms t) = true := fun x hx => has_mem (pa_sub (List.Sublist.refl (atoms t)) x hx).1 hx
abbrev wideO (t m : Nat) (l0 ln : List D) : List (List D) := atoms t :: l0 :: atoms t :: atoms t :: ln :: List.replicate m (atoms t)
theorem ix_lot {M : Mem} {o : List (List D)} {j : Nat} (h : j < o.length) : ixD (lotsD o) (.int (j : Int)) M = .ok (.lst (o.getD j [])) M := by
  have e1 : L2.atI (o.map D.lst) (j : Int) = some (.lst (o.getD j [])) := by
    rw [atI_nat, List.getElem?_map, List.getElem?_eq_getElem h, List.getD_eq_getElem?_getD, List.getElem?_eq_getElem h]
    rfl
  show (match L2.atI (o.map D.lst) (j : Int) with | some v => Res.ok v M | none => .bad) = _
  rw [e1]
theorem eIx_ok {a b : Den} {δ : Slots} {M M1 M2 : Mem} {x y : D} {r : Res D} (ha : a δ M = .ok x M1) (hb : b δ M1 = .ok y M2) (hr : ixD x y M2 = r) : eIx a b δ M = r := by
  show ((a δ M).bind fun x M => (b δ M).bind fun y M => ixD x y M) = r
  rw [ha, rb_ok, hb, rb_ok, hr]
theorem len_lots {M : Mem} {o : List (List D)} : biD .len [lotsD o] M = .ok (.int o.length) M := by
  show Res.ok (D.int ((o.map D.lst).length : Nat)) M = _
  rw [List.length_map]
theorem row5 {δ : Slots} {M : Mem} {t i many : Nat} {o : List (List D)} (h9 : eV 9 δ M = .ok (.lst (atoms t)) M) (hi : eV i δ M = .ok (lotsD o) M) (ho : o.length = many) (h0 : 0 < many) :
    eLst false [(false, (eV 9)), (false, (eIx (eV i) (eC (.int (0))))), (false, (eV 9)), (false, (eV 9)), (false, (eIx (eV i) (eBin .Sub (eBi .len [(false, (eV i))]) (eC (.int (1))))))] δ M = .ok (.lst [.lst (atoms t), .lst (o.getD 0 []), .lst (atoms t), .lst (atoms t), .lst (o.getD (many - 1) [])]) M := by
  have i0 : eIx (eV i) (eC (.int (0))) δ M = .ok (.lst (o.getD 0 [])) M := eIx_ok (y := .int ((0 : Nat) : Int)) hi rfl (ix_lot (by omega))
  have ln : eBi .len [(false, (eV i))] δ M = .ok (.int many) M := by
    show ((eL [(false, eV i)] δ M).bind fun xs M => biD .len xs M) = _
    rw [eL_one, hi, rb_ok]
    show biD .len [lotsD o] M = _
    rw [len_lots, ho]
  have sb : eBin .Sub (eBi .len [(false, (eV i))]) (eC (.int (1))) δ M = .ok (.int ((many - 1 : Nat) : Int)) M := by
    refine eBin_ok ln rfl ?_
    show Res.ok (D.int ((many : Int) - 1)) M = _
    have e : (many : Int) - 1 = ((many - 1 : Nat) : Int) := by omega
    rw [e]
  have iN : eIx (eV i) (eBin .Sub (eBi .len [(false, (eV i))]) (eC (.int (1)))) δ M = .ok (.lst (o.getD (many - 1) [])) M := eIx_ok hi sb (ix_lot (by omega))
  show ((eL _ δ M).bind fun xs M => if xs.length ≤ sizeLine then newL false xs M else .bad) = _
  rw [eL_one, h9, rb_ok, eL_one, i0, rb_ok, eL_one, h9, rb_ok, eL_one, h9, rb_ok, eL_one, iN]
  rfl
theorem rep_flat {x : D} : ∀ m : Nat, (List.replicate m [x]).flatten = List.replicate m x
  | 0 => rfl
  | m + 1 => by
    rw [List.replicate_succ, List.flatten_cons, rep_flat m, List.replicate_succ]
    rfl
theorem mul_one {x : D} {m : Nat} {M : Mem} (hm : m ≤ 400) : mulD (.lst [x]) (.int m) M = .ok (.lst (List.replicate m x)) M := by
  have g : guardR (decide (-(2 ^ 63) ≤ (m : Int)) && decide ((m : Int) < 2 ^ 63) && decide (([x] : List D).length * ((m : Int)).toNat ≤ sizeLine)) (.lst (List.replicate ((m : Int)).toNat [x]).flatten) M = .ok (.lst (List.replicate ((m : Int)).toNat [x]).flatten) M := by
    refine g_true' ?_
    have := lines
    rw [decide_eq_true (by omega), decide_eq_true (by omega), decide_eq_true (by rw [Int.toNat_natCast]; show 1 * m ≤ sizeLine; omega)]
    rfl
  have e : mulD (.lst [x]) (.int m) M = guardR (decide (-(2 ^ 63) ≤ (m : Int)) && decide ((m : Int) < 2 ^ 63) && decide (([x] : List D).length * ((m : Int)).toNat ≤ sizeLine)) (.lst (List.replicate ((m : Int)).toNat [x]).flatten) M := rfl
  rw [e, g, Int.toNat_natCast, rep_flat]
theorem mult_ok {a b : Den} {δ : Slots} {M M1 M2 : Mem} {x : D} {m : Nat} (ha : a δ M = .ok x M1) (hb : b δ M1 = .ok (.int m) M2) (hm : m ≤ 400) : eBin .Mult (eLst false [(false, a)]) b δ M = .ok (.lst (List.replicate m x)) M2 := by
  have l : eLst false [(false, a)] δ M = .ok (.lst [x]) M1 := by
    show ((eL _ δ M).bind fun xs M => if xs.length ≤ sizeLine then newL false xs M else .bad) = _
    rw [eL_one, ha]
    rfl
  exact eBin_ok l hb (mul_one hm)
theorem wide_lots {t m : Nat} {l0 ln : List D} : D.lst ([.lst (atoms t), .lst l0, .lst (atoms t), .lst (atoms t), .lst ln] ++ List.replicate m (.lst (atoms t))) = lotsD (wideO t m l0 ln) := by
  unfold lotsD
  simp [wideO]
theorem wide_sum {x : List D} {y : D} {m : Nat} {M : Mem} (hx : x.length = 5) (hm : m ≤ 400) : addD (.lst x) (.lst (List.replicate m y)) M = .ok (.lst (x ++ List.replicate m y)) M :=
  add_seq (a := .lst x) (b := .lst (List.replicate m y)) rfl rfl (by rw [hx, List.length_replicate]; have : 405 ≤ sizeLine := by decide
                                                                     omega)
theorem seg11 {s : D} {n t p many : Nat} {B : Int} {M : Mem} {ls : List (List D)} {a5 a6 a7 a8 a10 a11 a12 a13 a14 a16 a17 : Option D} (hlen : ls.length = many) (h0 : 0 < many) (hp : Pu M n B) (hB : B < 2 ^ 40) :
    ∃ (m : Nat) (M' : Mem), m ≤ 6 ∧ q11 (callD cfg 99) (SL s n t p a5 a6 a7 a8 (some (.lst (atoms t))) a10 a11 a12 a13 a14 (some (lotsD ls)) a16 a17) M = .ok (.nx (SL s n t p a5 a6 a7 a8 (some (.lst (atoms t))) (some (lotsD (wideO t m (ls.getD 0 []) (ls.getD (many - 1) [])))) a11 a12 a13 a14 (some (lotsD ls)) a16 a17)) M' ∧
      Pu M' n (B + 1) ∧ But M M' n := by
  obtain ⟨v, M', d1, d2, d3, d4, d5⟩ := draw_call (δ := SL s n t p a5 a6 a7 a8 (some (.lst (atoms t))) a10 a11 a12 a13 a14 (some (lotsD ls)) a16 a17) (d := eC (.int 7)) rfl rfl hp (by omega) (by decide)
  obtain ⟨m, rfl⟩ : ∃ m : Nat, v = m := ⟨v.toNat, by omega⟩
  refine ⟨m, M', by omega, ?_, d4, d5⟩
  have r := row5 (δ := SL s n t p a5 a6 a7 a8 (some (.lst (atoms t))) a10 a11 a12 a13 a14 (some (lotsD ls)) a16 a17) (M := M) (t := t) (i := 15) rfl rfl hlen h0
  have mu := mult_ok (a := eV 9) (δ := SL s n t p a5 a6 a7 a8 (some (.lst (atoms t))) a10 a11 a12 a13 a14 (some (lotsD ls)) a16 a17) (M := M) rfl d1 (by omega)
  have ad := wide_sum (x := [.lst (atoms t), .lst (ls.getD 0 []), .lst (atoms t), .lst (atoms t), .lst (ls.getD (many - 1) [])]) (y := .lst (atoms t)) (m := m) (M := M') rfl (by omega)
  rw [wide_lots] at ad
  exact sSet_ok (eBin_ok r mu ad)
/-! ### the wide others -/
def unl : D → List D
  | .lst xs => xs
  | _ => []
theorem unl_lots {o : List (List D)} {j : Nat} (h : j < o.length) : unl ((unl (lotsD o)).getD j .non) = o.getD j [] := by
  have e : unl (lotsD o) = o.map D.lst := rfl
  rw [e, List.getD_eq_getElem?_getD, List.getElem?_map, List.getElem?_eq_getElem h, List.getD_eq_getElem?_getD, List.getElem?_eq_getElem h]
  rfl
abbrev lessE : Den := eBin .Sub (eBi .len [(false, (eV 10))]) (eC (.int (5)))
theorem less_ok {δ : Slots} {M : Mem} {t m : Nat} {l0 ln : List D} (h : eV 10 δ M = .ok (lotsD (wideO t m l0 ln)) M) : lessE δ M = .ok (.int m) M := by
  have ln' : eBi .len [(false, (eV 10))] δ M = .ok (.int ((m + 5 : Nat) : Int)) M := by
    show ((eL [(false, eV 10)] δ M).bind fun xs M => biD .len xs M) = _
    rw [eL_one, h, rb_ok]
    show biD .len [lotsD (wideO t m l0 ln)] M = _
    have e : (wideO t m l0 ln).length = m + 5 := by simp [wideO]
    rw [len_lots, e]
  refine eBin_ok ln' rfl ?_
  show Res.ok (D.int (((m + 5 : Nat) : Int) - 5)) M = _
  have e : ((m + 5 : Nat) : Int) - 5 = m := by omega
  rw [e]
abbrev wideOf (t m many : Nat) (o : List (List D)) : List (List D) := wideO t m (o.getD 0 []) (o.getD (many - 1) [])
abbrev twoOf (many : Nat) (o : List (List D)) : List (List D) := [o.getD 0 [], o.getD (many - 1) []]
theorem seg12 {s : D} {n t p many m : Nat} {M : Mem} {ls : List (List D)} {os : List (List (List D))} {od : D} {l0 ln : List D} {a5 a6 a7 a8 a11 a12 a13 a14 a15 a17 : Option D} (h0 : 0 < many) (hm : m ≤ 6) (hf : os.length ≤ 15) (hos : ∀ o ∈ os, o.length = many) (ho : seqOf M od = some (osD os)) :
    q12 (callD cfg 99) (SL s n t p a5 a6 a7 a8 (some (.lst (atoms t))) (some (lotsD (wideO t m l0 ln))) a11 a12 a13 a14 a15 (some od) a17) M = .ok (.nx (SL s n t p a5 a6 a7 a8 (some (.lst (atoms t))) (some (lotsD (wideO t m l0 ln))) (some (.lst (osD (os.map (wideOf t m many))))) a12 a13 a14 a15 (some od) a17)) M := by
  obtain ⟨g, sg, hg, hk, n1, n2⟩ := seq_g ho
  have lo : (osD os).length = os.length := by unfold osD; rw [List.length_map]
  have line := lines
  have q := lc_map (M := M) (vs := [18]) (src := iSeq (eV 16)) (tg := .nm 18) (elt := (eBin .Add (eLst false [(false, (eV 9)), (false, (eIx (eV 18) (eC (.int (0))))), (false, (eV 9)), (false, (eV 9)), (false, (eIx (eV 18) (eBin .Sub (eBi .len [(false, (eV 18))]) (eC (.int (1))))))]) (eBin .Mult (eLst false [(false, (eV 9))]) lessE)))
    (g := g) (δ := SL s n t p a5 a6 a7 a8 (some (.lst (atoms t))) (some (lotsD (wideO t m l0 ln))) a11 a12 a13 a14 a15 (some od) a17) (xs := osD os) (f := fun d => lotsD (wideO t m (unl ((unl d).getD 0 .non)) (unl ((unl d).getD (many - 1) .non)))) (iseq_at rfl n1 n2 sg) hg (by rw [lo]; omega) fun d hd => by
      obtain ⟨o, hoo, rfl⟩ := List.mem_map.mp hd
      refine ⟨_, set_nm, ?_⟩
      have ol := hos o hoo
      rw [unl_lots (by omega), unl_lots (by omega)]
      generalize hδ : (wipeD (SL s n t p a5 a6 a7 a8 (some (.lst (atoms t))) (some (lotsD (wideO t m l0 ln))) a11 a12 a13 a14 a15 (some od) a17) [18]).set 18 (some (lotsD o)) = δ'
      have e9 : eV 9 δ' M = .ok (.lst (atoms t)) M := by rw [← hδ]; rfl
      have r := row5 (δ := δ') (M := M) (t := t) (i := 18) e9 (by rw [← hδ]; rfl) ol h0
      have le := less_ok (δ := δ') (M := M) (t := t) (m := m) (l0 := l0) (ln := ln) (by rw [← hδ]; rfl)
      have mu := mult_ok (a := eV 9) (δ := δ') (M := M) e9 le (by omega)
      have ad := wide_sum (x := [.lst (atoms t), .lst (o.getD 0 []), .lst (atoms t), .lst (atoms t), .lst (o.getD (many - 1) [])]) (y := .lst (atoms t)) (m := m) (M := M) rfl (by omega)
      rw [wide_lots] at ad
      exact eBin_ok r mu ad
  have e : (osD os).map (fun d => lotsD (wideO t m (unl ((unl d).getD 0 .non)) (unl ((unl d).getD (many - 1) .non)))) = osD (os.map (wideOf t m many)) := by
    unfold osD
    rw [List.map_map, List.map_map]
    refine List.map_congr_left fun o hoo => ?_
    have ol := hos o hoo
    show lotsD (wideO t m (unl ((unl (lotsD o)).getD 0 .non)) (unl ((unl (lotsD o)).getD (many - 1) .non))) = _
    rw [unl_lots (by omega), unl_lots (by omega)]
    rfl
  rw [e] at q
  exact sSet_ok q
theorem seg13 {s : D} {n t p many m : Nat} {M : Mem} {os : List (List (List D))} {l0 ln : List D} {a5 a6 a7 a8 a9 a12 a13 a14 a15 a16 a17 : Option D} (hm : m ≤ 6) (hf : os.length ≤ 15) (w : Wd t 2 [l0, ln] (os.map (twoOf many))) :
    q13 (callD cfg 99) (SL s n t p a5 a6 a7 a8 a9 (some (lotsD (wideO t m l0 ln))) (some (.lst (osD (os.map (wideOf t m many))))) a12 a13 a14 a15 a16 a17) M = .ok (.nx (SL s n t p a5 a6 a7 a8 a9 (some (lotsD (wideO t m l0 ln))) (some (.lst (osD (os.map (wideOf t m many))))) (some (toD [] (through [l0, ln] 0 (os.map (twoOf many))))) a13 a14 a15 a16 a17)) M := by
  have line := lines
  have wl : ∀ l0 ln : List D, (wideO t m l0 ln).length = m + 5 := fun l0 ln => by simp [wideO]
  have pick : ∀ (i : Nat) (δ : Slots) (l0 ln : List D), eV i δ M = .ok (lotsD (wideO t m l0 ln)) M → eLst false [(false, (eIx (eV i) (eC (.int (1))))), (false, (eIx (eV i) (eC (.int (4)))))] δ M = .ok (lotsD [l0, ln]) M := fun i δ l0 ln h => by
    have i1 : eIx (eV i) (eC (.int 1)) δ M = .ok (.lst l0) M := eIx_ok (y := .int ((1 : Nat) : Int)) h rfl (ix_lot (by rw [wl]; omega))
    have i4 : eIx (eV i) (eC (.int 4)) δ M = .ok (.lst ln) M := eIx_ok (y := .int ((4 : Nat) : Int)) h rfl (ix_lot (by rw [wl]; omega))
    show ((eL _ δ M).bind fun xs M => if xs.length ≤ sizeLine then newL false xs M else .bad) = _
    rw [eL_one, i1, rb_ok, eL_one, i4]
    rfl
  have p1 := pick 10 (SL s n t p a5 a6 a7 a8 a9 (some (lotsD (wideO t m l0 ln))) (some (.lst (osD (os.map (wideOf t m many))))) a12 a13 a14 a15 a16 a17) l0 ln rfl
  have q := lc_map (M := M) (vs := [18]) (src := iSeq (eV 11)) (tg := .nm 18) (elt := eLst false [(false, (eIx (eV 18) (eC (.int (1))))), (false, (eIx (eV 18) (eC (.int (4)))))])
    (g := []) (δ := SL s n t p a5 a6 a7 a8 a9 (some (lotsD (wideO t m l0 ln))) (some (.lst (osD (os.map (wideOf t m many))))) a12 a13 a14 a15 a16 a17) (xs := osD (os.map (wideOf t m many))) (f := fun d => lotsD [unl ((unl d).getD 1 .non), unl ((unl d).getD 4 .non)]) rfl gd_nil (by unfold osD; rw [List.length_map, List.length_map]; omega) fun d hd => by
      obtain ⟨o', ho', rfl⟩ := List.mem_map.mp hd
      obtain ⟨o, hoo, rfl⟩ := List.mem_map.mp ho'
      refine ⟨_, set_nm, ?_⟩
      exact pick 18 _ _ _ rfl
  have e : (osD (os.map (wideOf t m many))).map (fun d => lotsD [unl ((unl d).getD 1 .non), unl ((unl d).getD 4 .non)]) = osD (os.map (twoOf many)) := by
    unfold osD
    rw [List.map_map, List.map_map, List.map_map]
    rfl
  rw [e] at q
  have c : eCall (callD cfg 99 "_law_gone_through") (withDfl ["lots", "others", "at", "lead"] []) [(false, (eLst false [(false, (eIx (eV 10) (eC (.int (1))))), (false, (eIx (eV 10) (eC (.int (4)))))])), (false, (eLc false [18] (iSeq (eV 11)) (.nm 18) (testsD []) (eLst false [(false, (eIx (eV 18) (eC (.int (1))))), (false, (eIx (eV 18) (eC (.int (4)))))]))), (false, (eC (.int (0)))), (false, (eLst false []))] [] [] (SL s n t p a5 a6 a7 a8 a9 (some (lotsD (wideO t m l0 ln))) (some (.lst (osD (os.map (wideOf t m many))))) a12 a13 a14 a15 a16 a17) M = .ok (toD [] (through [l0, ln] 0 (os.map (twoOf many)))) M := by
    rw [call_pos (xs := [lotsD [l0, ln], .lst (osD (os.map (twoOf many))), .int 0, .lst []]) (ys := [lotsD [l0, ln], .lst (osD (os.map (twoOf many))), .int 0, .lst []]) (M' := M) ?_ rfl, gone_at w (by omega) rfl]
    · rfl
    · rw [eL_one, p1, rb_ok, eL_one, q]
      rfl
  exact sSet_ok c
end K78
set_option Elab.async false
set_option linter.all false
set_option maxRecDepth 100000
set_option maxHeartbeats 4000000
/-! J78: the law's body: the end of a turn. -/
namespace K78
open PySem Ev
theorem tIs_toD {r : Option (List D)} {M : Mem} : cmpD .Is (toD [] r) .non M = some (!r.isSome) := by
  cases r <;> rfl
theorem seg14 {s : D} {n t p m : Nat} {M : Mem} {l0 ln : List D} {r : Option (List D)} {a0 : D} {A' : List D} {a5 a6 a7 a8 a9 a11 a13 a14 a15 a16 a17 : Option D} (hA : atoms t = a0 :: A') (hm : m ≤ 6) (hr : ∀ q, r = some q → q.length = 2) :
    q14 (callD cfg 99) (SL s n t p a5 a6 a7 a8 a9 (some (lotsD (wideO t m l0 ln))) a11 (some (toD [] r)) a13 a14 a15 a16 a17) M = .ok (.nx (SL s n t p a5 a6 a7 a8 a9 (some (lotsD (wideO t m l0 ln))) a11 (some (toD [] r)) (some (toD [] (r.map (spread a0 m)))) a14 a15 a16 a17)) M := by
  have te : tCmp .Is (eV 12) (eC .non) (SL s n t p a5 a6 a7 a8 a9 (some (lotsD (wideO t m l0 ln))) a11 (some (toD [] r)) a13 a14 a15 a16 a17) M = .ok (!r.isSome) M := tCmp_ok rfl rfl tIs_toD
  have le := less_ok (δ := SL s n t p a5 a6 a7 a8 a9 (some (lotsD (wideO t m l0 ln))) a11 (some (toD [] r)) a13 a14 a15 a16 a17) (M := M) (t := t) (m := m) (l0 := l0) (ln := ln) rfl
  have ia : eIx (eV 4) (eC (.int (0))) (SL s n t p a5 a6 a7 a8 a9 (some (lotsD (wideO t m l0 ln))) a11 (some (toD [] r)) a13 a14 a15 a16 a17) M = .ok a0 M := by
    refine eIx_ok (x := .lst (atoms t)) (y := .int ((0 : Nat) : Int)) rfl rfl ?_
    show (match L2.atI (atoms t) ((0 : Nat) : Int) with | some v => Res.ok v M | none => .bad) = _
    rw [atI_nat, hA]
    rfl
  refine sSet_ok ?_
  show ((tCmp .Is (eV 12) (eC .non) (SL s n t p a5 a6 a7 a8 a9 (some (lotsD (wideO t m l0 ln))) a11 (some (toD [] r)) a13 a14 a15 a16 a17) M).bind fun c M => _) = _
  rw [te, rb_ok]
  cases r with
  | none => rfl
  | some q =>
    have l2 := hr q rfl
    match q, l2 with
    | [a, b], _ =>
      have i0 : eIx (eV 12) (eC (.int (0))) (SL s n t p a5 a6 a7 a8 a9 (some (lotsD (wideO t m l0 ln))) a11 (some (toD [] (some [a, b]))) a13 a14 a15 a16 a17) M = .ok a M := rfl
      have i1 : eIx (eV 12) (eC (.int (1))) (SL s n t p a5 a6 a7 a8 a9 (some (lotsD (wideO t m l0 ln))) a11 (some (toD [] (some [a, b]))) a13 a14 a15 a16 a17) M = .ok b M := rfl
      have row : eLst false [(false, (eIx (eV 4) (eC (.int (0))))), (false, (eIx (eV 12) (eC (.int (0))))), (false, (eIx (eV 4) (eC (.int (0))))), (false, (eIx (eV 4) (eC (.int (0))))), (false, (eIx (eV 12) (eC (.int (1)))))] (SL s n t p a5 a6 a7 a8 a9 (some (lotsD (wideO t m l0 ln))) a11 (some (toD [] (some [a, b]))) a13 a14 a15 a16 a17) M = .ok (.lst [a0, a, a0, a0, b]) M := by
        show ((eL _ _ M).bind fun xs M => if xs.length ≤ sizeLine then newL false xs M else .bad) = _
        rw [eL_one, ia, rb_ok, eL_one, i0, rb_ok, eL_one, ia, rb_ok, eL_one, ia, rb_ok, eL_one, i1]
        rfl
      have mu := mult_ok ia le (by omega)
      have ad := wide_sum (x := [a0, a, a0, a0, b]) (y := a0) (m := m) (M := M) rfl (by omega)
      exact eBin_ok row mu ad
theorem seg15 {s : D} {n t p N : Nat} {M : Mem} {wide : List (List D)} {more : List (List (List D))} {a5 a6 a7 a8 a9 a12 a14 a15 a16 a17 : Option D} (ht : t < 5) (hp : p < 2) (h0 : 0 < N) (hN : N ≤ 12) (w : Wd t N wide more) :
    ∃ M', q15 (callD cfg 99) (SL s n t p a5 a6 a7 a8 a9 (some (lotsD wide)) (some (.lst (osD more))) a12 (some (toD [] (through wide 0 more))) a14 a15 a16 a17) M = .ok (.nx (SL s n t p a5 a6 a7 a8 a9 (some (lotsD wide)) (some (.lst (osD more))) a12 (some (toD [] (through wide 0 more))) a14 a15 a16 a17)) M' ∧ Up M M' := by
  obtain ⟨v, M', c1, c2, c3, c4⟩ := first_call (δ := SL s n t p a5 a6 a7 a8 a9 (some (lotsD wide)) (some (.lst (osD more))) a12 (some (toD [] (through wide 0 more))) a14 a15 a16 a17) (a := eV 10) (b := eV 11) (od := .lst (osD more)) (M := M) ht hp h0 hN w rfl rfl rfl rfl
  have hr : ∀ q, through wide 0 more = some q → q.length ≤ 400 ∧ ∀ x ∈ q, x ∈ atoms t := fun q hq => by
    obtain ⟨h1, h2, _⟩ := through_out wide 0 more q hq
    refine ⟨by rw [h1, w.len]; omega, fun x hx => ?_⟩
    obtain ⟨l, hl, hxl⟩ := h2 x hx
    exact (w.lot l hl).subset hxl
  have sm : callD cfg 99 "_law_same" [v, toD [] (through wide 0 more)] M' = .ok (.bl true) M' := same_shows 96 ht c3 hr
  have c1 : eCall (callD cfg 99 "first_outside") (withDfl ["speech", "lots", "others"] []) [(false, (eV 3)), (false, (eV 10)), (false, (eV 11))] [] [] (SL s n t p a5 a6 a7 a8 a9 (some (lotsD wide)) (some (.lst (osD more))) a12 (some (toD [] (through wide 0 more))) a14 a15 a16 a17) M = .ok v M' := c1
  have c : eCall (callD cfg 99 "_law_same") (withDfl ["told", "due"] []) [(false, (eCall (callD cfg 99 "first_outside") (withDfl ["speech", "lots", "others"] []) [(false, (eV 3)), (false, (eV 10)), (false, (eV 11))] [] [])), (false, (eV 13))] [] [] (SL s n t p a5 a6 a7 a8 a9 (some (lotsD wide)) (some (.lst (osD more))) a12 (some (toD [] (through wide 0 more))) a14 a15 a16 a17) M = .ok (.bl true) M' := by
    rw [call_pos (xs := [v, toD [] (through wide 0 more)]) (ys := [v, toD [] (through wide 0 more)]) (M' := M') ?_ rfl, sm]
    · rfl
    · rw [eL_one, c1]
      rfl
  exact ⟨M', sIf_no (tNot_ok (tD_bl c)), c2⟩
theorem in_lots {t : Nat} {ls : List (List D)} {M : Mem} (h : ∀ l ∈ ls, l.Sublist (atoms t)) : cmpD .In (.lst []) (lotsD ls) M = some (ls.any fun l => l.isEmpty) := by
  show inD.inL (.lst []) (ls.map D.lst) M = _
  unfold inD.inL
  have p1 := pd_of (M := M) 2 (.lst []) rfl
  have p2 := pd_of (M := M) 10 (.lst (ls.map D.lst)) (pl_lots h)
  have f : flatD (.lst []) = false := rfl
  rw [if_neg (by rw [f]; simp), p1.1 70 (by omega), p2.1 70 (by omega)]
  have s1 : SeqAt.shaped (pOf (.lst [])) = true := by decide +kernel
  have s2 : SeqAt.shaped (.list (pOfs (ls.map D.lst))) = true := by
    have l := p2.2.2
    unfold SeqAt.shaped
    rw [show (PyData.list (pOfs (ls.map D.lst))).canLay0 = true from p2.2.1, decide_eq_true (show (PyData.list (pOfs (ls.map D.lst))).depth ≤ 64 from Nat.le_trans l (by omega))]; rfl
  show (if SeqAt.shaped (pOf (.lst [])) && SeqAt.shaped (.list (pOfs (ls.map D.lst))) then some ((pOfs (ls.map D.lst)).any fun z => PyData.eqv z (pOf (.lst []))) else none) = _
  rw [s1, s2]
  show some ((pOfs (ls.map D.lst)).any fun z => PyData.eqv z (.list [])) = _
  congr 1
  induction ls with
  | nil => rfl
  | cons l ls ih =>
    have ih := ih (fun x hx => h x (List.mem_cons_of_mem _ hx)) (pd_of (M := M) 10 (.lst (ls.map D.lst)) (pl_lots fun x hx => h x (List.mem_cons_of_mem _ hx))) (by
      have l := (pd_of (M := M) 10 (.lst (ls.map D.lst)) (pl_lots fun x hx => h x (List.mem_cons_of_mem _ hx)))
      unfold SeqAt.shaped
      rw [show (PyData.list (pOfs (ls.map D.lst))).canLay0 = true from l.2.1, decide_eq_true (show (PyData.list (pOfs (ls.map D.lst))).depth ≤ 64 from Nat.le_trans l.2.2 (by omega))]; rfl)
    show (PyData.eqv (pOf (.lst l)) (.list []) || (pOfs (ls.map D.lst)).any fun z => PyData.eqv z (.list [])) = (l.isEmpty || ls.any fun l => l.isEmpty)
    rw [ih]
    congr 1
    cases l <;> rfl
theorem seg16 {s : D} {n t p many : Nat} {M : Mem} {ls : List (List D)} {a5 a6 a7 a8 a9 a10 a11 a12 a13 a14 a16 a17 : Option D} (hm : many ≤ 12) (hlen : ls.length = many) (h : ∀ l ∈ ls, l.Sublist (atoms t)) :
    q16 (callD cfg 99) (SL s n t p a5 a6 a7 a8 a9 a10 a11 a12 a13 a14 (some (lotsD ls)) a16 a17) M = .ok (.nx (SL s n t p a5 a6 a7 a8 a9 a10 a11 a12 a13 (some (toD [] (through ls 0 []))) (some (lotsD ls)) a16 a17)) M := by
  have line := lines
  have te : tCmp .In (eLst false []) (eV 15) (SL s n t p a5 a6 a7 a8 a9 a10 a11 a12 a13 a14 (some (lotsD ls)) a16 a17) M = .ok (ls.any fun l => l.isEmpty) M := tCmp_ok (x := .lst []) rfl rfl (in_lots h)
  rw [through_free ls 0 .non]
  refine sSet_ok ?_
  show ((tCmp .In (eLst false []) (eV 15) (SL s n t p a5 a6 a7 a8 a9 a10 a11 a12 a13 a14 (some (lotsD ls)) a16 a17) M).bind fun c M => _) = _
  rw [te, rb_ok]
  cases hany : ls.any fun l => l.isEmpty with
  | true => rfl
  | false =>
    have q := lc_map (M := M) (vs := [18]) (src := iSeq (eV 15)) (tg := .nm 18) (elt := eIx (eV 18) (eC (.int (0)))) (g := []) (δ := SL s n t p a5 a6 a7 a8 a9 a10 a11 a12 a13 a14 (some (lotsD ls)) a16 a17) (xs := ls.map D.lst) (f := fun d => (unl d).headD .non) rfl gd_nil (by rw [List.length_map]; omega) fun d hd => by
      obtain ⟨l, hl, rfl⟩ := List.mem_map.mp hd
      refine ⟨_, set_nm, ?_⟩
      have ne : l.isEmpty = false := by
        cases he : l.isEmpty with
        | false => rfl
        | true => rw [List.any_eq_true.mpr ⟨l, hl, he⟩] at hany; cases hany
      cases l with
      | nil => cases ne
      | cons a r =>
        refine eIx_ok (x := .lst (a :: r)) (y := .int ((0 : Nat) : Int)) rfl rfl ?_
        show (match L2.atI (a :: r) ((0 : Nat) : Int) with | some v => Res.ok v M | none => .bad) = _
        rw [atI_nat]
        rfl
    rw [List.map_map] at q
    exact q
theorem seg17 {s : D} {n t p many : Nat} {M : Mem} {ls : List (List D)} {a5 a6 a7 a8 a9 a10 a11 a12 a13 a16 a17 : Option D} (ht : t < 5) (hp : p < 2) (h0 : 0 < many) (hm : many ≤ 12) (hlen : ls.length = many) (h : ∀ l ∈ ls, l.Sublist (atoms t)) :
    ∃ M', q17 (callD cfg 99) (SL s n t p a5 a6 a7 a8 a9 a10 a11 a12 a13 (some (toD [] (through ls 0 []))) (some (lotsD ls)) a16 a17) M = .ok (.nx (SL s n t p a5 a6 a7 a8 a9 a10 a11 a12 a13 (some (toD [] (through ls 0 []))) (some (lotsD ls)) a16 a17)) M' ∧ Up M M' := by
  have w1 : Wd t many ls [] := ⟨hlen, h, fun o h => (by cases h), fun o h => (by cases h), by simp⟩
  have w2 : Wd t many ls [ls] := ⟨hlen, h, fun o ho => by rw [List.mem_singleton.mp ho]; exact hlen, fun o ho => by rw [List.mem_singleton.mp ho]; exact h, by simp⟩
  generalize hδ : SL s n t p a5 a6 a7 a8 a9 a10 a11 a12 a13 (some (toD [] (through ls 0 []))) (some (lotsD ls)) a16 a17 = δ
  have e3 : ∀ M, eV 3 δ M = .ok (speech t p) M := fun M => by rw [← hδ]; rfl
  have e15 : ∀ M, eV 15 δ M = .ok (lotsD ls) M := fun M => by rw [← hδ]; rfl
  have e14 : ∀ M, eV 14 δ M = .ok (toD [] (through ls 0 [])) M := fun M => by rw [← hδ]; rfl
  obtain ⟨v, M1, c1, c2, c3, c4⟩ := first_call (δ := δ) (a := eV 15) (b := eLst false []) (od := .lst (osD [])) (M := M) ht hp h0 hm w1 rfl (e3 M) (e15 M) rfl
  have hr : ∀ q, through ls 0 [] = some q → q.length ≤ 400 ∧ ∀ x ∈ q, x ∈ atoms t := fun q hq => by
    obtain ⟨h1, h2, _⟩ := through_out ls 0 [] q hq
    refine ⟨by rw [h1, hlen]; omega, fun x hx => ?_⟩
    obtain ⟨l, hl, hxl⟩ := h2 x hx
    exact (h l hl).subset hxl
  have sm : callD cfg 99 "_law_same" [v, toD [] (through ls 0 [])] M1 = .ok (.bl true) M1 := same_shows 96 ht c3 hr
  have c1 : eCall (callD cfg 99 "first_outside") (withDfl ["speech", "lots", "others"] []) [(false, (eV 3)), (false, (eV 15)), (false, (eLst false []))] [] [] δ M = .ok v M1 := c1
  have c : eCall (callD cfg 99 "_law_same") (withDfl ["told", "due"] []) [(false, (eCall (callD cfg 99 "first_outside") (withDfl ["speech", "lots", "others"] []) [(false, (eV 3)), (false, (eV 15)), (false, (eLst false []))] [] [])), (false, (eV 14))] [] [] δ M = .ok (.bl true) M1 := by
    rw [call_pos (xs := [v, toD [] (through ls 0 [])]) (ys := [v, toD [] (through ls 0 [])]) (M' := M1) ?_ rfl, sm]
    · rfl
    · rw [eL_one, c1, rb_ok, eL_one, e14]
      rfl
  have el : eLst false [(false, (eV 15))] δ M1 = .ok (.lst (osD [ls])) M1 := by
    show ((eL _ δ M1).bind fun xs M => if xs.length ≤ sizeLine then newL false xs M else .bad) = _
    rw [eL_one, e15]
    rfl
  obtain ⟨v2, M2, d1, d2, d3, d4⟩ := first_call (δ := δ) (a := eV 15) (b := eLst false [(false, (eV 15))]) (od := .lst (osD [ls])) (M := M1) ht hp h0 hm w2 rfl (e3 M1) (e15 M1) el
  have tn : through ls 0 [ls] = none := through_in ls 0 [ls] ls (by simp) fun j l hj x hx => by
    have e : ls.getD (0 + j) [] = l := by rw [Nat.zero_add, List.getD_eq_getElem?_getD, hj]; rfl
    rw [e]
    exact has_mem (pa_sub (h l (List.mem_of_getElem? hj)) x hx).1 hx
  rw [tn] at d3
  have d1 : eCall (callD cfg 99 "first_outside") (withDfl ["speech", "lots", "others"] []) [(false, (eV 3)), (false, (eV 15)), (false, (eLst false [(false, (eV 15))]))] [] [] δ M1 = .ok v2 M2 := d1
  exact ⟨M2, sIf_no (tOr_ff (tNot_ok (tD_bl c)) (tCmp_ok d1 rfl (isnot_shows d3))), c2.trans d2⟩
end K78
set_option Elab.async false
set_option linter.all false
set_option maxRecDepth 100000
set_option maxHeartbeats 4000000
/-! K78: the law's body put together; its loops. -/
namespace K78
open PySem Ev
theorem seq_ok {a b : DenS} {δ δ1 : Slots} {M M1 : Mem} (h : a δ M = .ok (.nx δ1) M1) : sSeq a b δ M = b δ1 M1 := by
  show ((a δ M).bind fun f M => match f with
    | .nx δ => b δ M
    | f => .ok f M) = _
  rw [h]
  rfl
theorem But.grow {M M' : Mem} {n : Nat} (a : But M M' n) : Grow M M' n := ⟨Nat.le_of_eq a.1.symm, fun j _ h => a.2 j h⟩
theorem Up.grow {M M' : Mem} (a : Up M M') (n : Nat) : Grow M M' n := ⟨a.len, fun j h _ => a.old j h⟩
theorem Pu.lt {M : Mem} {n : Nat} {B : Int} (h : Pu M n B) : n < M.length := by
  obtain ⟨a, b, c, d, h1, _⟩ := h
  exact (List.getElem?_eq_some_iff.mp h1).1
theorem Pu.keep {M M' : Mem} {n : Nat} {B : Int} (h : Pu M n B) (e : M'[n]? = M[n]?) : Pu M' n B := by
  obtain ⟨a, b, c, d, h1, q⟩ := h
  exact ⟨a, b, c, d, e.trans h1, q⟩
theorem Grow.od {M M' : Mem} {n : Nat} (g : Grow M M' n) {od : D} {xs : List D} (h : seqOf M od = some xs) (ne : ∀ k, od = .ref k → k ≠ n) : seqOf M' od = some xs := by
  cases od with
  | lst ys => exact h
  | ref j =>
    have e := lstAt_some (show lstAt M j = some xs from h)
    exact lstAt_of ((g.old j (List.getElem?_eq_some_iff.mp e).1 (ne j rfl)).trans e)
  | _ => cases h
theorem getD_sub {A : List D} {o : List (List D)} {j : Nat} (h : ∀ l ∈ o, l.Sublist A) (hj : j < o.length) : (o.getD j []).Sublist A := by
  rw [List.getD_eq_getElem?_getD, List.getElem?_eq_getElem hj]
  exact h _ (List.getElem_mem hj)
theorem wide_sub {t m : Nat} {l0 ln : List D} (h0 : l0.Sublist (atoms t)) (hn : ln.Sublist (atoms t)) : ∀ l ∈ wideO t m l0 ln, l.Sublist (atoms t) := fun l hl => by
  simp only [wideO, List.mem_cons, List.mem_replicate] at hl
  rcases hl with e | e | e | e | e | e
  · rw [e]; exact List.Sublist.refl _
  · rw [e]; exact h0
  · rw [e]; exact List.Sublist.refl _
  · rw [e]; exact List.Sublist.refl _
  · rw [e]; exact hn
  · rw [e.2]; exact List.Sublist.refl _
theorem wide_len {t m : Nat} {l0 ln : List D} : (wideO t m l0 ln).length = m + 5 := by simp [wideO]
/-- a turn -/
theorem spin_spec {s : D} {n t p : Nat} {B : Int} {M : Mem} {a5 a6 a7 a8 a9 a10 a11 a12 a13 a14 a15 a16 a17 : Option D} (ht : t < 5) (hp : p < 2) (pu : Pu M n B) (hB : B < 2 ^ 39) :
    ∃ (b6 b7 b8 b9 b10 b11 b12 b13 b14 b15 b16 b17 : Option D) (M' : Mem), spinS (callD cfg 99) (SL s n t p a5 a6 a7 a8 a9 a10 a11 a12 a13 a14 a15 a16 a17) M = .ok (.nx (SL s n t p a5 b6 b7 b8 b9 b10 b11 b12 b13 b14 b15 b16 b17)) M' ∧ Grow M M' n ∧ Pu M' n (B + 1000) := by
  obtain ⟨many, M1, m1, m4, s1, pu1, g1⟩ := seg1 (s := s) (t := t) (p := p) (a5 := a5) (a6 := a6) (a7 := a7) (a8 := a8) (a9 := a9) (a10 := a10) (a11 := a11) (a12 := a12) (a13 := a13) (a14 := a14) (a15 := a15) (a16 := a16) (a17 := a17) pu (by omega)
  obtain ⟨ls, M2, hlen, hls, s2, pu2, g2⟩ := seg2 (s := s) (p := p) (a5 := a5) (a7 := a7) (a8 := a8) (a9 := a9) (a10 := a10) (a11 := a11) (a12 := a12) (a13 := a13) (a14 := a14) (a15 := a15) (a16 := a16) (a17 := a17) ht m4 pu1 (by omega)
  have nlt : n < M1.length := pu1.lt
  have nm : n ≠ M1.length := Nat.ne_of_lt nlt
  have l2 : M2.length = M1.length := g2.1
  have hm2 : lstAt (M2 ++ [.lst []]) M1.length = some (osD []) := lstAt_of (by rw [← l2]; simp [osD])
  obtain ⟨os0, M3, a7', s3, f3, o3, h3, pu3, g3⟩ := seg3 (s := s) (p := p) (a5 := a5) (a6 := some (.int many)) (a7 := a7) (a8 := a8) (a9 := a9) (a10 := a10) (a11 := a11) (a12 := a12) (a13 := a13) (a14 := a14) (a17 := a17) ht (by omega) hls nm (pu2.app) (by omega) hm2
  obtain ⟨od, os, M4, s4, f4, o4, h4, hod, pu4, g4⟩ := seg4 (s := s) (p := p) (a5 := a5) (a6 := some (.int many)) (a7 := a7') (a8 := a8) (a9 := a9) (a10 := a10) (a11 := a11) (a12 := a12) (a13 := a13) (a14 := a14) (a17 := a17) (by omega) hls nm pu3 (by omega) h3 f3 o3
  have w : Wd t many ls os := ⟨hlen, hls, fun o ho => (o4 o ho).1.trans hlen, fun o ho => (o4 o ho).2, by omega⟩
  have s5 := seg5 (s := s) (n := n) (a5 := a5) (a6 := some (.int many)) (a7 := a7') (a8 := a8) (a9 := a9) (a10 := a10) (a11 := a11) (a12 := a12) (a13 := a13) (a14 := a14) (a17 := a17) ht hp (by omega) w h4
  obtain ⟨v1, v2, M6, s6, g6, w1, w2, fr⟩ := seg6 (s := s) (n := n) (a5 := a5) (a6 := some (.int many)) (a7 := a7') (a8 := a8) (a9 := a9) (a10 := a10) (a11 := a11) (a12 := a12) (a13 := some (toD [] (through ls 0 os))) (a14 := a14) (a17 := some (.str (repP t p ls os).shown)) ht hp (by omega) (by omega) w h4
  have h6 := g6.seq h4
  have s7 := seg7 (s := s) (n := n) (a5 := a5) (a6 := some (.int many)) (a7 := a7') (a9 := a9) (a10 := a10) (a11 := a11) (a12 := a12) (a14 := a14) ht hp (by omega) w h6 w1 w2
  have s8 := seg8 (s := s) (n := n) (p := p) (v2 := v2) (a5 := a5) (a6 := some (.int many)) (a7 := a7') (a9 := a9) (a10 := a10) (a11 := a11) (a12 := a12) (a13 := some (toD [] (through ls 0 os))) (a14 := a14) (a17 := some (.str (repP t p ls os).shown)) (by omega) w h6 w1
  have l34 : M4.length = M3.length := g4.1
  have mlt : M1.length < M3.length := (List.getElem?_eq_some_iff.mp (lstAt_some h3)).1
  have hod4 : ∀ k, od = .ref k → k < M4.length := fun k hk => by rw [hod k hk, l34]; exact mlt
  obtain ⟨M9, s9, st9⟩ := seg9 (L := M4.length) (s := s) (n := n) (v2 := v2) (a5 := a5) (a6 := some (.int many)) (a7 := a7') (a9 := a9) (a10 := a10) (a11 := a11) (a12 := a12) (a14 := a14) (a17 := some (.str (repP t p ls os).shown)) ht hp (by omega) (by omega) w g6.len h6 hod4 w1 fr
  have g49 : Grow M4 M9 n := ⟨Nat.le_trans g6.len st9.len, fun j h _ => (st9.old j h).trans (g6.old j h)⟩
  have odn : ∀ k, od = .ref k → k ≠ n := fun k hk => by rw [hod k hk]; exact Ne.symm nm
  have h9 := g49.od h4 odn
  have pu9 : Pu M9 n (B + 1 + 100 + 600 + 1) := pu4.keep ((st9.old n pu4.lt).trans (g6.old n pu4.lt))
  have s10 : q10 (callD cfg 99) (SL s n t p a5 (some (.int many)) a7' (some (.lst [v1, v2])) a9 a10 a11 a12 (some (toD [] (through ls 0 os))) a14 (some (lotsD ls)) (some od) (some (.str (repP t p ls os).shown))) M9 = .ok (.nx (SL s n t p a5 (some (.int many)) a7' (some (.lst [v1, v2])) (some (.lst (atoms t))) a10 a11 a12 (some (toD [] (through ls 0 os))) a14 (some (lotsD ls)) (some od) (some (.str (repP t p ls os).shown)))) M9 := rfl
  obtain ⟨m, M11, m6, s11, pu11, g11⟩ := seg11 (s := s) (t := t) (p := p) (a5 := a5) (a6 := some (.int many)) (a7 := a7') (a8 := some (.lst [v1, v2])) (a10 := a10) (a11 := a11) (a12 := a12) (a13 := some (toD [] (through ls 0 os))) (a14 := a14) (a16 := some od) (a17 := some (.str (repP t p ls os).shown)) hlen (by omega) pu9 (by omega)
  have h11 := g11.grow.od h9 odn
  have s12 := seg12 (s := s) (n := n) (t := t) (p := p) (m := m) (ls := ls) (l0 := ls.getD 0 []) (ln := ls.getD (many - 1) []) (a5 := a5) (a6 := some (.int many)) (a7 := a7') (a8 := some (.lst [v1, v2])) (a11 := a11) (a12 := a12) (a13 := some (toD [] (through ls 0 os))) (a14 := a14) (a15 := some (lotsD ls)) (a17 := some (.str (repP t p ls os).shown)) (many := many) (by omega) m6 w.few w.olen h11
  have sub : ∀ o : List (List D), o.length = many → (∀ l ∈ o, l.Sublist (atoms t)) → (o.getD 0 []).Sublist (atoms t) ∧ (o.getD (many - 1) []).Sublist (atoms t) := fun o h1 h2 => ⟨getD_sub h2 (by omega), getD_sub h2 (by omega)⟩
  have w2' : Wd t 2 [ls.getD 0 [], ls.getD (many - 1) []] (os.map (twoOf many)) := by
    refine ⟨rfl, fun l hl => ?_, fun o ho => ?_, fun o ho l hl => ?_, by rw [List.length_map]; exact w.few⟩
    · obtain ⟨a, b⟩ := sub ls hlen hls
      rcases List.mem_cons.mp hl with e | e
      · rw [e]; exact a
      · rw [List.mem_singleton.mp e]; exact b
    · obtain ⟨o', _, rfl⟩ := List.mem_map.mp ho
      rfl
    · obtain ⟨o', ho', rfl⟩ := List.mem_map.mp ho
      obtain ⟨a, b⟩ := sub o' (w.olen o' ho') (w.olot o' ho')
      rcases List.mem_cons.mp hl with e | e
      · rw [e]; exact a
      · rw [List.mem_singleton.mp e]; exact b
  have ww : Wd t (m + 5) (wideO t m (ls.getD 0 []) (ls.getD (many - 1) [])) (os.map (wideOf t m many)) := by
    refine ⟨wide_len, ?_, fun o ho => ?_, fun o ho => ?_, by rw [List.length_map]; exact w.few⟩
    · obtain ⟨a, b⟩ := sub ls hlen hls
      exact wide_sub a b
    · obtain ⟨o', _, rfl⟩ := List.mem_map.mp ho
      exact wide_len
    · obtain ⟨o', ho', rfl⟩ := List.mem_map.mp ho
      obtain ⟨a, b⟩ := sub o' (w.olen o' ho') (w.olot o' ho')
      exact wide_sub a b
  have s13 := seg13 (s := s) (n := n) (p := p) (M := M11) (a5 := a5) (a6 := some (.int many)) (a7 := a7') (a8 := some (.lst [v1, v2])) (a9 := some (.lst (atoms t))) (a12 := a12) (a13 := some (toD [] (through ls 0 os))) (a14 := a14) (a15 := some (lotsD ls)) (a16 := some od) (a17 := some (.str (repP t p ls os).shown)) m6 w.few w2'
  obtain ⟨a0, A', hA⟩ := atoms_head ht
  have r2 : ∀ q, through [ls.getD 0 [], ls.getD (many - 1) []] 0 (os.map (twoOf many)) = some q → q.length = 2 := fun q hq => (through_out _ _ _ q hq).1
  have s14 := seg14 (s := s) (n := n) (p := p) (M := M11) (m := m) (l0 := ls.getD 0 []) (ln := ls.getD (many - 1) []) (a5 := a5) (a6 := some (.int many)) (a7 := a7') (a8 := some (.lst [v1, v2])) (a9 := some (.lst (atoms t))) (a11 := some (.lst (osD (os.map (wideOf t m many))))) (a13 := some (toD [] (through ls 0 os))) (a14 := a14) (a15 := some (lotsD ls)) (a16 := some od) (a17 := some (.str (repP t p ls os).shown)) hA m6 r2
  have tw : through (wideO t m (ls.getD 0 []) (ls.getD (many - 1) [])) 0 (os.map (wideOf t m many)) = (through [ls.getD 0 [], ls.getD (many - 1) []] 0 (os.map (twoOf many))).map (spread a0 m) := by
    rw [through_zero, through_zero]
    have q := thr_wide hA atoms_has m (ls.getD 0 []) (ls.getD (many - 1) []) (os.map fun o => (o.getD 0 [], o.getD (many - 1) []))
    rw [List.map_map, List.map_map] at q
    exact q
  rw [← tw] at s14
  obtain ⟨M15, s15, g15⟩ := seg15 (s := s) (n := n) (M := M11) (a5 := a5) (a6 := some (.int many)) (a7 := a7') (a8 := some (.lst [v1, v2])) (a9 := some (.lst (atoms t))) (a12 := some (toD [] (through [ls.getD 0 [], ls.getD (many - 1) []] 0 (os.map (twoOf many))))) (a14 := a14) (a15 := some (lotsD ls)) (a16 := some od) (a17 := some (.str (repP t p ls os).shown)) ht hp (by omega) (by omega) ww
  have s16 := seg16 (s := s) (n := n) (p := p) (M := M15) (a5 := a5) (a6 := some (.int many)) (a7 := a7') (a8 := some (.lst [v1, v2])) (a9 := some (.lst (atoms t))) (a10 := some (lotsD (wideO t m (ls.getD 0 []) (ls.getD (many - 1) [])))) (a11 := some (.lst (osD (os.map (wideOf t m many))))) (a12 := some (toD [] (through [ls.getD 0 [], ls.getD (many - 1) []] 0 (os.map (twoOf many))))) (a13 := some (toD [] (through (wideO t m (ls.getD 0 []) (ls.getD (many - 1) [])) 0 (os.map (wideOf t m many))))) (a14 := a14) (a16 := some od) (a17 := some (.str (repP t p ls os).shown)) (by omega) hlen hls
  obtain ⟨M17, s17, g17⟩ := seg17 (s := s) (n := n) (M := M15) (a5 := a5) (a6 := some (.int many)) (a7 := a7') (a8 := some (.lst [v1, v2])) (a9 := some (.lst (atoms t))) (a10 := some (lotsD (wideO t m (ls.getD 0 []) (ls.getD (many - 1) [])))) (a11 := some (.lst (osD (os.map (wideOf t m many))))) (a12 := some (toD [] (through [ls.getD 0 [], ls.getD (many - 1) []] 0 (os.map (twoOf many))))) (a13 := some (toD [] (through (wideO t m (ls.getD 0 []) (ls.getD (many - 1) [])) 0 (os.map (wideOf t m many))))) (a16 := some od) (a17 := some (.str (repP t p ls os).shown)) ht hp (by omega) (by omega) hlen hls
  have gr : Grow M M17 n := by
    have g13 : Grow M1 M3 n := by
      refine ⟨?_, fun j h hj => ?_⟩
      · rw [g3.len, List.length_append, l2]
        exact Nat.le_add_right _ _
      · rw [g3.old j hj (Nat.ne_of_lt h), List.getElem?_append_left (by omega)]
        exact g2.2 j hj
    exact g1.grow.trans (g13.trans (g4.grow.trans (g49.trans (g11.grow.trans ((g15.trans g17).grow n)))))
  have pf : Pu M17 n (B + 1000) := (pu11.keep (((g15.trans g17).old n pu11.lt))).mono (by omega)
  iterate 12 apply Exists.intro
  apply Exists.intro
  refine ⟨?A, gr, pf⟩
  show sSeq (q1 (callD cfg 99)) _ _ _ = _
  rw [seq_ok s1, seq_ok s2, seq_ok s3, seq_ok s4, seq_ok s5, seq_ok s6, seq_ok s7, seq_ok s8, seq_ok s9, seq_ok s10, seq_ok s11, seq_ok s12, seq_ok s13, seq_ok s14, seq_ok s15, seq_ok s16]
  exact s17
end K78
set_option Elab.async false
set_option linter.all false
set_option maxRecDepth 100000
set_option maxHeartbeats 4000000
/-! Ka78: the law's loops; the law. -/
namespace K78
open PySem Ev
theorem spins {s : D} {n t p : Nat} (ht : t < 5) (hp : p < 2) : ∀ (xs : List D) (B : Int) (M : Mem) (a5 a6 a7 a8 a9 a10 a11 a12 a13 a14 a15 a16 a17 : Option D), Pu M n B → B + 1000 * xs.length < 2 ^ 39 →
    ∃ (b5 b6 b7 b8 b9 b10 b11 b12 b13 b14 b15 b16 b17 : Option D) (M' : Mem), forGo (.nm 5) (spinS (callD cfg 99)) [] xs (SL s n t p a5 a6 a7 a8 a9 a10 a11 a12 a13 a14 a15 a16 a17) M = .ok (.nx (SL s n t p b5 b6 b7 b8 b9 b10 b11 b12 b13 b14 b15 b16 b17)) M' ∧ Grow M M' n
  | [], B, M, a5, a6, a7, a8, a9, a10, a11, a12, a13, a14, a15, a16, a17, _, _ => ⟨a5, a6, a7, a8, a9, a10, a11, a12, a13, a14, a15, a16, a17, M, for_nil, Grow.refl _ _⟩
  | x :: xs, B, M, a5, a6, a7, a8, a9, a10, a11, a12, a13, a14, a15, a16, a17, pu, hB => by
    rw [List.length_cons] at hB
    obtain ⟨b6, b7, b8, b9, b10, b11, b12, b13, b14, b15, b16, b17, M1, h1, g1, pu1⟩ := spin_spec (s := s) (a5 := some x) (a6 := a6) (a7 := a7) (a8 := a8) (a9 := a9) (a10 := a10) (a11 := a11) (a12 := a12) (a13 := a13) (a14 := a14) (a15 := a15) (a16 := a16) (a17 := a17) ht hp pu (by omega)
    obtain ⟨c5, c6, c7, c8, c9, c10, c11, c12, c13, c14, c15, c16, c17, M2, h2, g2⟩ := spins ht hp xs (B + 1000) M1 (some x) b6 b7 b8 b9 b10 b11 b12 b13 b14 b15 b16 b17 pu1 (by omega)
    refine ⟨c5, c6, c7, c8, c9, c10, c11, c12, c13, c14, c15, c16, c17, M2, ?_, g1.trans g2⟩
    rw [for_cons (δ' := SL s n t p (some x) a6 a7 a8 a9 a10 a11 a12 a13 a14 a15 a16 a17) rfl, h1, rb_ok]
    exact h2
abbrev SB (s : D) (b1 b2 b3 b4 a5 a6 a7 a8 a9 a10 a11 a12 a13 a14 a15 a16 a17 : Option D) : Slots := [some s, b1, b2, b3, b4, a5, a6, a7, a8, a9, a10, a11, a12, a13, a14, a15, a16, a17, none, none, none]
theorem cut_ts {t : Nat} (ht : t < 5) : cutD [D.str "a", .str "b", .str "c", .str "d"] none (some (t : Int)) = tsOf t := by
  match t, ht with
  | 0, _ => rfl
  | 1, _ => rfl
  | 2, _ => rfl
  | 3, _ => rfl
  | 4, _ => rfl
  | t + 5, h => exact absurd h (by omega)
theorem cut_ps {p : Nat} (hp : p < 2) : cutD [D.str "p"] none (some (p : Int)) = psOf p := by
  match p, hp with
  | 0, _ => rfl
  | 1, _ => rfl
  | p + 2, h => exact absurd h (by omega)
theorem purse_run {s : D} {n : Nat} {M : Mem} {b2 b3 b4 a5 a6 a7 a8 a9 a10 a11 a12 a13 a14 a15 a16 a17 : Option D} (pu : Pu M n 0) :
    ∃ (c2 c3 c4 c5 c6 c7 c8 c9 c10 c11 c12 c13 c14 c15 c16 c17 : Option D) (M' : Mem), purseS (callD cfg 99) (SB s (some (.ref n)) b2 b3 b4 a5 a6 a7 a8 a9 a10 a11 a12 a13 a14 a15 a16 a17) M = .ok (.nx (SB s (some (.ref n)) c2 c3 c4 c5 c6 c7 c8 c9 c10 c11 c12 c13 c14 c15 c16 c17)) M' ∧ Grow M M' n := by
  obtain ⟨v, M1, d1, d2, d3, d4, d5⟩ := draw_call (δ := SB s (some (.ref n)) b2 b3 b4 a5 a6 a7 a8 a9 a10 a11 a12 a13 a14 a15 a16 a17) (d := eC (.int 5)) rfl rfl pu (by decide) (by decide)
  obtain ⟨t, rfl⟩ : ∃ t : Nat, v = t := ⟨v.toNat, by omega⟩
  have ht : t < 5 := by omega
  have s1 : p1 (callD cfg 99) (SB s (some (.ref n)) b2 b3 b4 a5 a6 a7 a8 a9 a10 a11 a12 a13 a14 a15 a16 a17) M = .ok (.nx (SB s (some (.ref n)) (some (.int t)) b3 b4 a5 a6 a7 a8 a9 a10 a11 a12 a13 a14 a15 a16 a17)) M1 := sSet_ok d1
  obtain ⟨u, M2, e1, e2, e3, e4, e5⟩ := draw_call (δ := SB s (some (.ref n)) (some (.int t)) b3 b4 a5 a6 a7 a8 a9 a10 a11 a12 a13 a14 a15 a16 a17) (d := eC (.int 2)) rfl rfl d4 (by decide) (by decide)
  obtain ⟨p, rfl⟩ : ∃ p : Nat, u = p := ⟨u.toNat, by omega⟩
  have hp : p < 2 := by omega
  have sl1 : eSl (eLst false [(false, (eC (.str "a"))), (false, (eC (.str "b"))), (false, (eC (.str "c"))), (false, (eC (.str "d")))]) oNone (oSome (eV 2)) (SB s (some (.ref n)) (some (.int t)) b3 b4 a5 a6 a7 a8 a9 a10 a11 a12 a13 a14 a15 a16 a17) M1 = .ok (.lst (tsOf t)) M1 := by
    show Res.ok (D.lst (cutD [D.str "a", .str "b", .str "c", .str "d"] none (some (t : Int)))) M1 = _
    rw [cut_ts ht]
  have sl2 : eSl (eLst false [(false, (eC (.str "p")))]) oNone (oSome (drawE (callD cfg 99) (eC (.int 2)))) (SB s (some (.ref n)) (some (.int t)) b3 b4 a5 a6 a7 a8 a9 a10 a11 a12 a13 a14 a15 a16 a17) M1 = .ok (.lst (psOf p)) M2 := by
    show (((drawE (callD cfg 99) (eC (.int 2)) (SB s (some (.ref n)) (some (.int t)) b3 b4 a5 a6 a7 a8 a9 a10 a11 a12 a13 a14 a15 a16 a17) M1).bind fun x M => match x with
      | .int i => Res.ok (some i) M
      | _ => .bad).bind fun h M => slD (.lst [D.str "p"]) none h M) = _
    rw [e1]
    show Res.ok (D.lst (cutD [D.str "p"] none (some (p : Int)))) M2 = _
    rw [cut_ps hp]
  have sl2 : eSl (eLst false [(false, (eC (.str "p")))]) oNone (oSome (eCall (callD cfg 99 "_law_draw") (withDfl ["purse", "many"] []) [(false, (eV 1)), (false, (eC (.int (2))))] [] [])) (SB s (some (.ref n)) (some (.int t)) b3 b4 a5 a6 a7 a8 a9 a10 a11 a12 a13 a14 a15 a16 a17) M1 = .ok (.lst (psOf p)) M2 := sl2
  have s2 : p2 (callD cfg 99) (SB s (some (.ref n)) (some (.int t)) b3 b4 a5 a6 a7 a8 a9 a10 a11 a12 a13 a14 a15 a16 a17) M1 = .ok (.nx (SB s (some (.ref n)) (some (.int t)) (some (speech t p)) b4 a5 a6 a7 a8 a9 a10 a11 a12 a13 a14 a15 a16 a17)) M2 := by
    refine sSet_ok (x := speech t p) ?_
    show ((eL _ _ M1).bind fun xs M => guardR (decide (xs.length ≤ sizeLine)) (.tup xs) M) = _
    rw [eL_one, show eC (.str "speech") (SB s (some (.ref n)) (some (.int t)) b3 b4 a5 a6 a7 a8 a9 a10 a11 a12 a13 a14 a15 a16 a17) M1 = .ok (.str "speech") M1 from rfl, rb_ok, eL_one, sl1, rb_ok, eL_one, sl2]
    show guardR (decide (3 ≤ sizeLine)) (speech t p) M2 = _
    exact g_true' (by decide)
  have at_ := atoms_spec 98 t p M2 ht hp
  have at_ : callD cfg 99 "_law_atoms" [speech t p] M2 = .ok (.lst (atoms t)) M2 := at_
  have s3 : p3 (callD cfg 99) (SB s (some (.ref n)) (some (.int t)) (some (speech t p)) b4 a5 a6 a7 a8 a9 a10 a11 a12 a13 a14 a15 a16 a17) M2 = .ok (.nx (SL s n t p a5 a6 a7 a8 a9 a10 a11 a12 a13 a14 a15 a16 a17)) M2 := by
    refine sSet_ok (x := .lst (atoms t)) ?_
    rw [call_pos (xs := [speech t p]) (ys := [speech t p]) (M' := M2) rfl rfl, at_]
    rfl
  obtain ⟨c5, c6, c7, c8, c9, c10, c11, c12, c13, c14, c15, c16, c17, M3, h3, g3⟩ := spins (s := s) (n := n) ht hp (rangeD 0 4) _ M2 a5 a6 a7 a8 a9 a10 a11 a12 a13 a14 a15 a16 a17 e4 (by rw [rangeD_len]; decide)
  refine ⟨some (.int t), some (speech t p), some (.lst (atoms t)), c5, c6, c7, c8, c9, c10, c11, c12, c13, c14, c15, c16, c17, M3, ?_, d5.grow.trans (e5.grow.trans g3)⟩
  show sSeq (p1 (callD cfg 99)) _ _ _ = _
  rw [seq_ok s1, seq_ok s2, seq_ok s3]
  show ((iRange1 (eC (.int (4))) (SL s n t p a5 a6 a7 a8 a9 a10 a11 a12 a13 a14 a15 a16 a17) M2).bind fun p' M => forGo (.nm 5) (spinS (callD cfg 99)) p'.2 p'.1 (SL s n t p a5 a6 a7 a8 a9 a10 a11 a12 a13 a14 a15 a16 a17) M) = _
  have r4 := range_ok (δ := SL s n t p a5 a6 a7 a8 a9 a10 a11 a12 a13 a14 a15 a16 a17) (M := M2) (d := eC (.int 4)) (v := 4) rfl (by decide) (by decide)
  rw [r4, rb_ok]
  exact h3
theorem purse_loop {s : D} : ∀ (js : List Nat) (M : Mem) (b1 b2 b3 b4 a5 a6 a7 a8 a9 a10 a11 a12 a13 a14 a15 a16 a17 : Option D), js.Nodup → (∀ j ∈ js, Pu M j 0) →
    ∃ (δ' : Slots) (M' : Mem), forGo (.nm 1) (purseS (callD cfg 99)) [] (js.map D.ref) (SB s b1 b2 b3 b4 a5 a6 a7 a8 a9 a10 a11 a12 a13 a14 a15 a16 a17) M = .ok (.nx δ') M'
  | [], M, b1, b2, b3, b4, a5, a6, a7, a8, a9, a10, a11, a12, a13, a14, a15, a16, a17, _, _ => ⟨_, M, for_nil⟩
  | j :: js, M, b1, b2, b3, b4, a5, a6, a7, a8, a9, a10, a11, a12, a13, a14, a15, a16, a17, nd, pu => by
    obtain ⟨n1, n2⟩ := List.nodup_cons.mp nd
    obtain ⟨c2, c3, c4, c5, c6, c7, c8, c9, c10, c11, c12, c13, c14, c15, c16, c17, M1, h1, g1⟩ := purse_run (s := s) (b2 := b2) (b3 := b3) (b4 := b4) (a5 := a5) (a6 := a6) (a7 := a7) (a8 := a8) (a9 := a9) (a10 := a10) (a11 := a11) (a12 := a12) (a13 := a13) (a14 := a14) (a15 := a15) (a16 := a16) (a17 := a17) (pu j (by simp))
    obtain ⟨δ', M2, h2⟩ := purse_loop (s := s) js M1 (some (.ref j)) c2 c3 c4 c5 c6 c7 c8 c9 c10 c11 c12 c13 c14 c15 c16 c17 n2 fun i hi => by
      have pi := pu i (List.mem_cons_of_mem _ hi)
      exact pi.keep (g1.old i pi.lt fun e => n1 (e ▸ hi))
    refine ⟨δ', M2, ?_⟩
    rw [List.map_cons, for_cons (δ' := SB s (some (.ref j)) b2 b3 b4 a5 a6 a7 a8 a9 a10 a11 a12 a13 a14 a15 a16 a17) rfl, h1, rb_ok]
    exact h2
theorem law_run (ns : List Int) : ∃ M, callD cfg 100 "law" [.frz (ns.map D.int)] [] = .ok (.bl true) M := by
  obtain ⟨cnt, os, h1, h2, h3, h4, h5⟩ := purses_spec 97 ns
  have h4 : callD cfg 99 "_law_purses" [.frz (ns.map D.int), .int 3] [] = .ok (.lst ((List.range cnt).map D.ref)) os := h4
  obtain ⟨δ', M', h6⟩ := purse_loop (s := .frz (ns.map D.int)) (List.range cnt) os none none none none none none none none none none none none none none none none none List.nodup_range fun j hj => h5 j (List.mem_range.mp hj)
  refine ⟨M', ?_⟩
  have e := c_law 99 [.frz (ns.map D.int)] []
  rw [e, law_split]
  show endD (sSeq (sFor (iSeq (eCall (callD cfg 99 "_law_purses") (withDfl ["script", "few"] []) [(false, (eV 0)), (false, (eC (.int (3))))] [] [])) (.nm 1) (purseS (callD cfg 99))) (sRet (eC (.bl true))) (SB (.frz (ns.map D.int)) none none none none none none none none none none none none none none none none none) []) = _
  have src : iSeq (eCall (callD cfg 99 "_law_purses") (withDfl ["script", "few"] []) [(false, (eV 0)), (false, (eC (.int (3))))] [] []) (SB (.frz (ns.map D.int)) none none none none none none none none none none none none none none none none none) [] = .ok ((List.range cnt).map D.ref, []) os := by
    have c : eCall (callD cfg 99 "_law_purses") (withDfl ["script", "few"] []) [(false, (eV 0)), (false, (eC (.int (3))))] [] [] (SB (.frz (ns.map D.int)) none none none none none none none none none none none none none none none none none) [] = .ok (.lst ((List.range cnt).map D.ref)) os := by
      rw [call_pos (xs := [.frz (ns.map D.int), .int 3]) (ys := [.frz (ns.map D.int), .int 3]) (M' := []) rfl rfl, h4]
      rfl
    show ((eCall (callD cfg 99 "_law_purses") (withDfl ["script", "few"] []) [(false, (eV 0)), (false, (eC (.int (3))))] [] [] (SB (.frz (ns.map D.int)) none none none none none none none none none none none none none none none none none) []).bind fun x M => _) = _
    rw [c]
    rfl
  have lp : sFor (iSeq (eCall (callD cfg 99 "_law_purses") (withDfl ["script", "few"] []) [(false, (eV 0)), (false, (eC (.int (3))))] [] [])) (.nm 1) (purseS (callD cfg 99)) (SB (.frz (ns.map D.int)) none none none none none none none none none none none none none none none none none) [] = .ok (.nx δ') M' := by
    show ((iSeq (eCall (callD cfg 99 "_law_purses") (withDfl ["script", "few"] []) [(false, (eV 0)), (false, (eC (.int (3))))] [] []) (SB (.frz (ns.map D.int)) none none none none none none none none none none none none none none none none none) []).bind fun p' M => forGo (.nm 1) (purseS (callD cfg 99)) p'.2 p'.1 (SB (.frz (ns.map D.int)) none none none none none none none none none none none none none none none none none) M) = _
    rw [src, rb_ok]
    exact h6
  rw [seq_ok lp]
  rfl
end K78
set_option Elab.async false
set_option linter.all false
set_option maxRecDepth 100000
set_option maxHeartbeats 0
namespace K78
open PySem PySem.Spec PyProof.Rows L2 Ev
theorem law_name : (HandSHeadRun.topDef R.prog last).name = ("law" : Str) := by kernel_rfl
def lawF : FnI := ((cfg.fns.lookup ("law" : Str)).getD ⟨[], [], [], [], default⟩)
theorem main (ns : List Int) (h1 : ns.length ≤ 63) (h2 : ∀ i ∈ ns, Builtin.Int.intBits i ≤ 1048576) : ∃ M, callD cfg 100 "law" [.frz (ns.map D.int)] [] = .ok (.bl true) M := law_run ns
end K78
open PySem PySem.W PySem.Calls PyProof.Rows
theorem PySem.Challenge.cw_alikedeeds_k78_whole_rows_outside_holds : PySem.Challenge.rw_alikedeeds_k78_whole_rows_outside.Holds := by
  w_on; o_law
  refine HandSHeadRun.head_any (r := OpenLaw.row PySem.Challenge.rw_alikedeeds_k78_whole_rows_outside) (q := view (OpenLaw.row PySem.Challenge.rw_alikedeeds_k78_whole_rows_outside).prog [K78.last]) (H := K78.hk) (ob := K78.ob) (M := 4000) (loose := K78.loose) (d := HandSHeadRun.topDef (OpenLaw.row PySem.Challenge.rw_alikedeeds_k78_whole_rows_outside).prog K78.last) (kwd := []) K78.ob_eq
    (by kernel_rfl) (fun s => by kernel_rfl) K78.run (by kernel_rfl) (by kernel_rfl) (by kernel_rfl) (by rfl) (by first | assumption | decide +kernel) (by decide +kernel) ⟨rfl, rfl, rfl, rfl, rfl, by decide +kernel⟩ ?hw ?hc
  case hw => w_witness2
  case hc =>
    refine Ev.walk_ev (l := PySem.Challenge.rw_alikedeeds_k78_whole_rows_outside) (n := 63) (k := 100) (c := K78.cfg) (fi := K78.lawF) (x := "script") rfl (by decide) (by kernel_rfl) ⟨rfl, by decide, by decide⟩ ?a1 ?a2 ?a3 ?F ?M
    case a1 => rw [K78.law_name]; kernel_rfl
    case a2 => kernel_rfl
    case a3 => kernel_rfl
    case F =>
      intro w mg fa h Y G _
      obtain ⟨K, KX, c, cc⟩ := Y
      exact ⟨K, KX, Ev.known_of KX G c cc K78.defs_ok⟩
    case M =>
      intro ns h1 h2
      rw [K78.law_name]
      exact K78.main ns h1 h2
