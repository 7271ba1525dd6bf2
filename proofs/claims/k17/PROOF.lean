import PyProof.Rows.All
import HandS.ForMost
import HandS.ForExc
import HandS.IsInst
import HandS.Wide
import HandS.Deep
import HandS.TupAny
import HandS.Zip
import HandS.Style
import HandS.DictComp
import HandS.Small
import HandS.FStr
import HandS.Conv
import HandS.CallSlots
import HandS.TryMany
import HandS.HeadHook1
import HandS.ExcValue
import HandS.ExcInit
import PyProof.Rows.IntBool
import HandS.TupMul
import HandS.Flow
import KE.GoesZip
import KE.GoesMore
import KE.GoesEnum
import HandS.ExcField
import KE.KExcSuper
import KE.KExcIs
import HandS.ExcBuiltin
import KE.KRevSl
import HandS.SetFor
import HandS.RaiseMore
import HandS.Iter
import HandS.Set
import HandS.Defaults
import HandS.Ends
import HandS.Head0
import HandS.Head1
import HandS.Head2
import HandS.HeadEnd
import HandS.HeadHook2
import HandS.HeadHook4
import PySem.Challenge.RW_copiedlengths_k17_errors_and_their_class
section T_RfCore
set_option Elab.async false
set_option linter.all false
set_option maxRecDepth 100000
/-! Rf: the core language, its values and what it does (plain Lean, no machine in sight) -/
namespace Rf
open PySem L2

/-- values as data; a cell is a thing that may change -/
inductive D where
  | non | bl (b : Bool) | int (i : Int) | str (s : Str)
  | tup (xs : List D) | lst (xs : List D) | dic (ks : List Key) (xs : List D) | cell (n : Nat)
  | scr (ns : List Int) | exn (x : Str) (l : Option Int)

inductive Cell where
  | lst (xs : List D) | dic (ks : List Key) (xs : List D) | ins (c : Nat) (ks : List Str) (xs : List D) | dead
abbrev Mem := List Cell
abbrev Env := List (Option D)
structure Exn where
  cls : Nat
  line : Option D

/-- an expression's end -/
inductive R (α : Type) where
  | ok (a : α) (M : Mem) | er (x : Exn) (M : Mem)
abbrev Res (α : Type) := Option (R α)
def Res.bind {α β : Type} (r : Res α) (k : α → Mem → Res β) : Res β :=
  match r with
  | none => none
  | some (.ok a M) => k a M
  | some (.er x M) => some (.er x M)
def ok {α : Type} (a : α) (M : Mem) : Res α := some (.ok a M)
/-- a truth value -/
def asB (r : Res D) : Res Bool := r.bind fun x M => match x with
  | .bl b => ok b M
  | _ => none

inductive Op where
  | add | sub | mul | fdiv | mod | pow
inductive Co where
  | eq | ne | lt | le | gt | ge | inn | nin
inductive Ty where
  | int | bool | str | tuple | list
  deriving DecidableEq
inductive Bi where
  | abs | all | any | bool | int | len | list | tuple | max2 | min2 | dict | strOf | sortSet | sortStr | count | index | join | split | upper | get2 | zipL
  deriving DecidableEq

mutual
inductive CE where
  | var (i : Nat)
  | con (d : D)
  | bin (op : Op) (a b : CE)
  | neg (a : CE)
  | cmp (op : Co) (a b : CE)
  | isN (a : CE)
  | notN (a : CE)
  | chain (p q : Co) (a b c : CE)
  | and (a b : CE)
  | or (a b : CE)
  | not (a : CE)
  | notV (a : CE)
  | ite (c a b : CE)
  | tup (es : CEs)
  | lst (es : CEs)
  | lstM (es : CEs)
  | dicM (ks : List Key) (es : CEs)
  | dic0
  | idx (a i : CE)
  | idxD (a i : CE)
  | inD (k a : CE)
  | ninD (k a : CE)
  | slc (a : CE) (lo hi : CO)
  | rev (a : CE)
  | call (f : Nat) (es : CEs) (more : List D)
  | bi (b : Bi) (es : CEs)
  | me (b : Bi) (a : CE) (es : CEs)
  | rngL (a : CE)
  | rngL2 (a b : CE)
  | isi (a : CE) (t : Ty)
  | lc (e : CE) (tg : Tg) (it : CI)
  | lcIf (e : CE) (tg : Tg) (it : CI) (c : CE)
  | dcIfM (k e : CE) (tg : Tg) (it : CI) (c : CE)
  | fmt (a : CE)
  | fstr (es : CEs)
  | addM (a b : CE)
  | mkE (x : Str) (a : CE)
  | mkL (x : Str) (a : CE)
  | isE (a : CE) (x : Str) (t : List (Str × Bool))
  | isB (a : CE) (ys : List Str)
  | lineE (a : CE) (ys : List Str)
inductive CEs where
  | nil
  | cons (e : CE) (es : CEs)
inductive CO where
  | no
  | at (e : CE)
inductive CI where
  | seq (e : CE)
  | rng (e : CE)
  | rng2 (a b : CE)
  | enum (e : CE)
  | zip (a b : CE)
  | keys (i : Nat)
inductive Tg where
  | nm (i : Nat)
  | tp (ts : TgL)
inductive TgL where
  | nil
  | cons (t : Tg) (ts : TgL)
end

mutual
/-- no cell from n on is in it -/
def D.low (n : Nat) : D → Bool
  | .cell m => decide (m < n)
  | .tup xs => D.lows n xs
  | .lst xs => D.lows n xs
  | .dic _ xs => D.lows n xs
  | _ => true
def D.lows (n : Nat) : List D → Bool
  | [] => true
  | d :: ds => d.low n && D.lows n ds
end
mutual
/-- the same value, as it is written -/
def sameD : D → D → Bool
  | .non, .non => true
  | .bl a, .bl b => a == b
  | .int a, .int b => decide (a = b)
  | .str a, .str b => decide (a = b)
  | .tup a, .tup b => sameDs a b
  | _, _ => false
def sameDs : List D → List D → Bool
  | [], [] => true
  | a :: as, b :: bs => sameD a b && sameDs as bs
  | _, _ => false
end
mutual
theorem sameD_ok : ∀ {a b : D}, sameD a b = true → a = b
  | .non, b, h => by cases b <;> first | rfl | (cases h)
  | .bl a, b, h => by cases b <;> first | (exact congrArg D.bl (beq_iff_eq.mp h)) | (cases h)
  | .int a, b, h => by cases b <;> first | (exact congrArg D.int (of_decide_eq_true h)) | (cases h)
  | .str a, b, h => by cases b <;> first | (exact congrArg D.str (of_decide_eq_true h)) | (cases h)
  | .tup a, b, h => by cases b <;> first | (exact congrArg D.tup (sameDs_ok h)) | (cases h)
  | .lst a, b, h => by cases b <;> cases h
  | .dic _ _, b, h => by cases b <;> cases h
  | .cell _, b, h => by cases b <;> cases h
  | .scr _, b, h => by cases b <;> cases h
  | .exn _ _, b, h => by cases b <;> cases h
theorem sameDs_ok : ∀ {a b : List D}, sameDs a b = true → a = b
  | [], [], _ => rfl
  | [], _ :: _, h => by cases h
  | _ :: _, [], h => by cases h
  | x :: a, y :: b, h => by
    have h : (sameD x y && sameDs a b) = true := h
    rw [Bool.and_eq_true] at h
    rw [sameD_ok h.1, sameDs_ok h.2]
end
/-! ### what the operators do -/
def bitsOk (i : Int) : Bool := decide (i.natAbs.log2 < 500000)
def rep {α : Type} (n : Nat) (xs : List α) : List α := (List.replicate n xs).flatten
def ePow (i j : Int) : Option D := if 0 ≤ j ∧ j ≤ 1000000 ∧ i.natAbs < 2 ^ 64 then some (.int (i ^ j.toNat)) else none
def eOp (M : Mem) : Op → D → D → Option D
  | .add, .int i, .int j => some (.int (i + j))
  | .add, .str a, .str b => if a.length + b.length ≤ sizeLine then some (.str (a ++ b)) else none
  | .add, .lst a, .lst b => if a.length + b.length ≤ sizeLine then some (.lst (a ++ b)) else none
  | .add, .cell n, .lst b => match M[n]? with
    | some (.lst a) => if a.length + b.length ≤ sizeLine then some (.lst (a ++ b)) else none
    | _ => none
  | .add, .tup a, .tup b => if a.length + b.length ≤ sizeLine then some (.tup (a ++ b)) else none
  | .add, .bl a, .int j => some (.int ((if a = true then (1 : Int) else 0) + j))
  | .sub, .int i, .int j => some (.int (i - j))
  | .sub, .bl a, .int j => some (.int ((if a = true then (1 : Int) else 0) - j))
  | .mul, .int i, .int j => if bitsOk i && bitsOk j then some (.int (i * j)) else none
  | .mul, .tup a, .int k => if a ≠ [] ∧ 0 ≤ k ∧ k ≤ 1000 ∧ a.length ≤ 1000 then some (.tup (rep k.toNat a)) else none
  | .mul, .lst a, .int k => if 0 ≤ k ∧ k < 2 ^ 63 ∧ a.length * k.toNat ≤ sizeLine then some (.lst (rep k.toNat a)) else none
  | .mul, .str a, .int k => if 0 ≤ k ∧ k ≤ 1000 ∧ a.length ≤ 1000 then some (.str ⟨(rep k.toNat a.cps.toList).toArray⟩) else none
  | .fdiv, .int i, .int j => if 0 < j ∧ j.natAbs.log2 < 9000 then some (.int (i / j)) else none
  | .mod, .int i, .int j => if 0 < j then some (.int (i % j)) else none
  | .pow, .int i, .int j => ePow i j
  | _, _, _ => none
mutual
def toPy : D → Option PyData
  | .non => some .none
  | .bl b => some (.bool b)
  | .int i => some (.int i)
  | .str s => some (.str s)
  | .tup xs => (toPys xs).map .tuple
  | .lst xs => (toPys xs).map .list
  | .dic _ _ => none
  | .cell _ => none
  | .scr _ => none
  | .exn _ _ => none
def toPys : List D → Option (List PyData)
  | [] => some []
  | d :: ds => match toPy d, toPys ds with
    | some x, some xs => some (x :: xs)
    | _, _ => none
end
def eEq (a b : D) : Option Bool := match toPy a, toPy b with
  | some x, some y => if SeqAt.shaped x && SeqAt.shaped y then some (PyData.eqv x y) else none
  | _, _ => none
def flatD : D → Bool
  | .non => true
  | .bl _ => true
  | .int _ => true
  | .str _ => true
  | _ => false
def eqF : D → D → Bool
  | .non, .non => true
  | .bl a, .bl b => a == b
  | .bl a, .int b => (if a then 1 else 0) == b
  | .int a, .bl b => a == (if b then 1 else 0)
  | .int a, .int b => a == b
  | .str a, .str b => a == b
  | _, _ => false
def eIn (a : D) : D → Option Bool
  | .lst ys => match toPy a, toPys ys with
    | some x, some ys => if SeqAt.shaped x && SeqAt.shaped (.list ys) then some (ys.any fun z => PyData.eqv z x) else none
    | _, _ => none
  | .tup ys => if flatD a && ys.all flatD then some (ys.any fun y => eqF y a) else match toPy a, toPys ys with
    | some x, some ys => if SeqAt.shaped x && SeqAt.shaped (.list ys) then some (ys.any fun z => PyData.eqv z x) else none
    | _, _ => none
  | _ => none
def eCo : Co → D → D → Option Bool
  | .eq, a, b => eEq a b
  | .ne, a, b => (eEq a b).map not
  | .lt, .int i, .int j => some (decide (i < j))
  | .le, .int i, .int j => some (decide (i ≤ j))
  | .gt, .int i, .int j => some (decide (j < i))
  | .ge, .int i, .int j => some (decide (j ≤ i))
  | .inn, a, b => eIn a b
  | .nin, a, b => (eIn a b).map not
  | _, _, _ => none
def eIdx (M : Mem) : D → D → Option D
  | .lst xs, .int i => atI xs i
  | .tup xs, .int i => atI xs i
  | .cell n, .int i => match M[n]? with
    | some (.lst xs) => atI xs i
    | _ => none
  | .scr ns, .int i => (atI ns i).map .int
  | _, _ => none
def keyOf : D → Option Key
  | .int i => some (.inl i)
  | .str s => some (.inr s)
  | _ => none
def lookD (ks : List Key) (xs : List D) (k : Key) : Option D := ((ks.zip xs).find? fun p => decide (p.1 = k)).map (·.2)
def dicOf (M : Mem) : D → Option (List Key × List D)
  | .dic ks xs => some (ks, xs)
  | .cell n => match M[n]? with
    | some (.dic ks xs) => some (ks, xs)
    | _ => none
  | _ => none
def eGet (M : Mem) (a k : D) : Option (Option D) := match dicOf M a, keyOf k with
  | some (ks, xs), some k => some (lookD ks xs k)
  | _, _ => none
def cutD {α : Type} (xs : List α) (lo hi : Option Int) : List α := (xs.drop (HT.sIx xs.length 0 lo)).take (HT.sIx xs.length xs.length hi - HT.sIx xs.length 0 lo)
def eSlc : D → Option Int → Option Int → Option D
  | .lst xs, lo, hi => some (.lst (cutD xs lo hi))
  | .tup xs, lo, hi => some (.tup (cutD xs lo hi))
  | .str s, lo, hi => if s.length ≤ sizeLine then some (.str ⟨(cutD s.cps.toList lo hi).toArray⟩) else none
  | _, _, _ => none
def eRev : D → Option D
  | .lst xs => some (.lst xs.reverse)
  | .tup xs => some (.tup xs.reverse)
  | _ => none
/-- a value in an f-string -/
def eFmt : D → Option D
  | .str y => if y.length ≤ sizeLine then some (.str y) else none
  | .int i => if i.natAbs.log2 < 1920 then some (.str (toString i)) else none
  | _ => none
/-- a sum of lists that is to change -/
def eAddM (M : Mem) : D → D → Option (D × Mem)
  | .lst a, .lst b => if a.length + b.length ≤ sizeLine ∧ D.lows 0 (a ++ b) = true then some (.cell M.length, M ++ [.lst (a ++ b)]) else none
  | .cell n, .lst b => match M[n]? with
    | some (.lst a) => if a.length + b.length ≤ sizeLine ∧ D.lows 0 (a ++ b) = true then some (.cell M.length, M ++ [.lst (a ++ b)]) else none
    | _ => none
  | _, _ => none
def bools : List D → Option (List Bool)
  | [] => some []
  | .bl b :: r => (bools r).map (b :: ·)
  | _ => none
def strsOf : List D → Option (List Str)
  | [] => some []
  | .str b :: r => (strsOf r).map (b :: ·)
  | _ => none
/-- pairs (key, value) -/
def pairsOf : List D → Option (List (Key × D))
  | [] => some []
  | .tup [k, v] :: r => match keyOf k, pairsOf r with
    | some k, some l => some ((k, v) :: l)
    | _, _ => none
  | _ => none
def putD {α : Type} (ks : List Key) (xs : List α) (k : Key) (v : α) : List Key × List α :=
  if (ks.any fun j => decide (j = k)) = true then (ks, (ks.zip xs).map fun p => if p.1 = k then v else p.2) else (ks ++ [k], xs ++ [v])
def mergeD (l : List (Key × D)) : List Key × List D := l.foldl (fun a p => putD a.1 a.2 p.1 p.2) ([], [])
def isTy : Ty → D → Option Bool
  | .int, .int _ => some true
  | .int, .bl _ => some true
  | .bool, .bl _ => some true
  | .str, .str _ => some true
  | .tuple, .tup _ => some true
  | .list, .lst _ => some true
  | _, .cell _ => none
  | _, .scr _ => none
  | _, .exn _ _ => none
  | _, _ => some false
/-- a text in order -/
def strLe (a b : Str) : Bool := !PySem.Spec.ltCps b.cps.toList a.cps.toList
def sortS (l : List Str) : List Str := l.mergeSort strLe
def countD (l : List D) (x : D) : Option Int := (l.mapM fun y => eEq y x).map fun bs => ((bs.filter id).length : Int)
def indexD : List D → D → Option Int
  | [], _ => none
  | y :: r, x => match eEq y x with
    | some true => some 0
    | some false => (indexD r x).map (· + 1)
    | none => none
def rangeD (lo hi : Int) : List D := (List.range (hi - lo).toNat).map fun i => .int (lo + (i : Nat))
def small62 (i : Int) : Bool := decide (-(2 ^ 62) ≤ i) && decide (i < 2 ^ 62)
def zipD : List D → List D → List D
  | x :: xs, y :: ys => .tup [x, y] :: zipD xs ys
  | _, _ => []
def enumD : Nat → List D → List D
  | _, [] => []
  | n, x :: xs => .tup [.int (n : Nat), x] :: enumD (n + 1) xs
def bAbs : List D → Option D
  | [.int i] => some (.int (if i < 0 then -i else i))
  | _ => none
def bAll : List D → Option D
  | [.lst xs] => (bools xs).map fun bs => .bl (bs.all id)
  | _ => none
def bAny : List D → Option D
  | [.lst xs] => (bools xs).map fun bs => .bl (bs.any id)
  | _ => none
def bBool : List D → Option D
  | [.bl b] => some (.bl b)
  | _ => none
def bInt : List D → Option D
  | [.int i] => some (.int i)
  | [.bl b] => some (.int (if b then 1 else 0))
  | _ => none
def bLen (M : Mem) : List D → Option D
  | [.lst xs] => some (.int xs.length)
  | [.tup xs] => some (.int xs.length)
  | [.str s] => if s.length ≤ sizeLine then some (.int s.length) else none
  | [.cell n] => match M[n]? with
    | some (.lst xs) => some (.int xs.length)
    | _ => none
  | [.scr ns] => some (.int ns.length)
  | _ => none
def bList : List D → Option D
  | [.lst xs] => some (.lst xs)
  | [.tup xs] => some (.lst xs)
  | _ => none
def bTuple : List D → Option D
  | [.lst xs] => some (.tup xs)
  | [.tup xs] => some (.tup xs)
  | _ => none
def bMax2 : List D → Option D
  | [.int i, .int j] => some (.int (if j > i then j else i))
  | _ => none
def bMin2 : List D → Option D
  | [.int i, .int j] => some (.int (if j < i then j else i))
  | _ => none
def bDict : List D → Option D
  | [.lst xs] => (pairsOf xs).map fun l => .dic (mergeD l).1 (mergeD l).2
  | _ => none
def bStr : List D → Option D
  | [.str s] => some (.str s)
  | [.int i] => if i.natAbs.log2 < 1920 then some (.str (toString i)) else none
  | _ => none
def bSortStr : List D → Option D
  | [.lst xs] => match strsOf xs with
    | some l => if l.length < 64 then some (.lst ((sortS l).map .str)) else none
    | none => none
  | _ => none
def bSortSet : List D → Option D
  | [.lst xs] => match strsOf xs with
    | some l => if l.length < 64 then some (.lst ((sortS l.eraseDups).map .str)) else none
    | none => none
  | _ => none
/-- how many of a list of texts are a text -/
def bCount : List D → Option D
  | [.lst xs, .str x] => match strsOf xs with
    | some l => some (.int ((l.filter fun y => decide (y = x)).length : Nat))
    | none => none
  | _ => none
def bJoin : List D → Option D
  | [.str s, .lst xs] => match strsOf xs with
    | some l => if (l.map (·.length)).sum + l.length * s.length ≤ 16777216 then some (.str (Txt.join s l)) else none
    | none => none
  | [.str s, .tup xs] => match strsOf xs with
    | some l => if (l.map (·.length)).sum + l.length * s.length ≤ 16777216 then some (.str (Txt.join s l)) else none
    | none => none
  | _ => none
def bSplit : List D → Option D
  | [.str s, .str t] => if (t.length == 0) = false ∧ s.length + 2 ≤ sizeLine then some (.lst ((Txt.split s t).map .str)) else none
  | _ => none
def bUpper : List D → Option D
  | [.str s] => if s.length ≤ 5592405 then some (.str (Txt.upper s)) else none
  | _ => none
def bGet (M : Mem) : List D → Option D
  | [a, k, d] => (eGet M a k).map fun o => o.getD d
  | _ => none
def bRange1 : List D → Option D
  | [.int n] => if small62 n ∧ n ≤ 1000 then some (.lst (rangeD 0 n)) else none
  | _ => none
def bRange2 : List D → Option D
  | [.int a, .int b] => if small62 a ∧ small62 b ∧ b - a ≤ 1000 then some (.lst (rangeD a b)) else none
  | _ => none
def bZip : List D → Option D
  | [.lst a, .lst b] => some (.lst (zipD a b))
  | _ => none
def eBi (M : Mem) : Bi → List D → Option D
  | .abs => bAbs
  | .all => bAll
  | .any => bAny
  | .bool => bBool
  | .int => bInt
  | .len => bLen M
  | .list => bList
  | .tuple => bTuple
  | .max2 => bMax2
  | .min2 => bMin2
  | .dict => bDict
  | .strOf => bStr
  | .sortStr => bSortStr
  | .sortSet => bSortSet
  | .count => bCount
  | .index => fun _ => none
  | .join => bJoin
  | .split => bSplit
  | .upper => bUpper
  | .get2 => bGet M
  | .zipL => bZip

/-! ### targets -/
mutual
def asT : Tg → D → Env → Option Env
  | .nm i, d, env => some (env.set i (some d))
  | .tp ts, .tup ds, env => asTs ts ds env
  | .tp _, _, _ => none
def asTs : TgL → List D → Env → Option Env
  | .nil, [], env => some env
  | .cons t ts, d :: ds, env => match asT t d env with
    | some env' => asTs ts ds env'
    | none => none
  | _, _, _ => none
end
mutual
/-- the slots of a target -/
def Tg.slots : Tg → List Nat
  | .nm i => [i]
  | .tp ts => ts.slots
def TgL.slots : TgL → List Nat
  | .nil => []
  | .cons t ts => t.slots ++ ts.slots
end
def TgL.len : TgL → Nat
  | .nil => 0
  | .cons _ ts => ts.len + 1
def wipeE (env : Env) : List Nat → Env
  | [] => env
  | v :: vs => (wipeE env vs).set v none

abbrev Calls := Nat → List D → Mem → Res D
def lift {α : Type} (o : Option α) (M : Mem) : Res α := match o with
  | some a => some (.ok a M)
  | none => none
/-- a list comprehension over items that are known; an element that raises is not served -/
def lcL (g : D → Mem → Res (Option D)) : List D → Mem → List D → Res (List D)
  | [], M, acc => ok acc M
  | x :: xs, M, acc => match g x M with
    | some (.ok (some y) M') => lcL g xs M' (acc ++ [y])
    | some (.ok none M') => lcL g xs M' acc
    | _ => none
def dcL (g : D → Mem → Res (Option (D × D))) : List D → Mem → List Key × List D → Res (List Key × List D)
  | [], M, acc => ok acc M
  | x :: xs, M, acc => match g x M with
    | some (.ok (some (k, y)) M') => match keyOf k with
      | some k => dcL g xs M' (putD acc.1 acc.2 k y)
      | none => none
    | some (.ok none M') => dcL g xs M' acc
    | _ => none

/-- whether a value has a method -/
def recv (M : Mem) (b : Bi) (x : D) : Option Unit := match b, x with
  | .join, .str _ => some ()
  | .split, .str _ => some ()
  | .upper, .str _ => some ()
  | .count, .lst _ => some ()
  | .get2, x => (dicOf M x).map fun _ => ()
  | _, _ => none
def getV (env : Env) (i : Nat) (M : Mem) : Res D := match env[i]? with
  | some (some d) => ok d M
  | _ => none
def negI (x : D) (M : Mem) : Res D := match x with
  | .int i => ok (.int (-i)) M
  | _ => none
def isNon : D → Bool
  | .non => true
  | _ => false
def someI (x : D) (M : Mem) : Res (Option Int) := match x with
  | .int i => ok (some i) M
  | _ => none
def mkLine (x : Str) (d : D) (M : Mem) : Res D := match d with
  | .int i => ok (.exn x (some i)) M
  | _ => none
/-- whether an error is of a class, by a table -/
def isExn (t : List (Str × Bool)) : D → Option Bool
  | .exn y _ => t.lookup y
  | _ => none
def isBas (ys : List Str) : D → Option D
  | .exn y _ => if y ∈ ys then some (.bl true) else none
  | _ => none
def lineOf (ys : List Str) : D → Option D
  | .exn y (some i) => if y ∈ ys then some (.int i) else none
  | _ => none
/-- not, by truth -/
def notD : D → Option Bool
  | .bl b => some (!b)
  | .int i => some (!(i != 0))
  | _ => none
mutual
def ev (cl : Calls) : CE → Env → Mem → Res D
  | .var i, env, M => getV env i M
  | .con d, _, M => ok d M
  | .bin op a b, env, M => (ev cl a env M).bind fun x M => (ev cl b env M).bind fun y M => lift (eOp M op x y) M
  | .neg a, env, M => (ev cl a env M).bind fun x M => negI x M
  | .cmp op a b, env, M => (ev cl a env M).bind fun x M => (ev cl b env M).bind fun y M => lift ((eCo op x y).map .bl) M
  | .isN a, env, M => (ev cl a env M).bind fun x M => ok (.bl (isNon x)) M
  | .notN a, env, M => (ev cl a env M).bind fun x M => ok (.bl (!isNon x)) M
  | .chain p q a b c, env, M => (ev cl a env M).bind fun x M => (ev cl b env M).bind fun y M => (lift (eCo p x y) M).bind fun t M => if t then (ev cl c env M).bind fun z M => lift ((eCo q y z).map .bl) M else ok (.bl false) M
  | .and a b, env, M => (asB (ev cl a env M)).bind fun t M => if t then ev cl b env M else ok (.bl false) M
  | .or a b, env, M => (asB (ev cl a env M)).bind fun t M => if t then ok (.bl true) M else ev cl b env M
  | .not a, env, M => (asB (ev cl a env M)).bind fun t M => ok (.bl (!t)) M
  | .notV a, env, M => (ev cl a env M).bind fun x M => lift ((notD x).map .bl) M
  | .ite c a b, env, M => (asB (ev cl c env M)).bind fun t M => if t then ev cl a env M else ev cl b env M
  | .tup es, env, M => (evs cl es env M).bind fun xs M => if xs.length ≤ sizeLine then ok (.tup xs) M else none
  | .lst es, env, M => (evs cl es env M).bind fun xs M => if xs.length ≤ sizeLine then ok (.lst xs) M else none
  | .lstM es, env, M => (evs cl es env M).bind fun xs M => if xs.length ≤ sizeLine ∧ D.lows 0 xs = true then ok (.cell M.length) (M ++ [.lst xs]) else none
  | .dicM ks es, env, M => (evs cl es env M).bind fun xs M => if ks.length = xs.length ∧ ks.length ≤ 15 ∧ D.lows 0 xs = true then ok (.cell M.length) (M ++ [.dic (mergeD (ks.zip xs)).1 (mergeD (ks.zip xs)).2]) else none
  | .dic0, _, M => ok (.dic [] []) M
  | .idx a i, env, M => (ev cl a env M).bind fun x M => (ev cl i env M).bind fun y M => lift (eIdx M x y) M
  | .idxD a i, env, M => (ev cl a env M).bind fun x M => (ev cl i env M).bind fun y M => lift ((eGet M x y).bind id) M
  | .inD k a, env, M => (ev cl k env M).bind fun y M => (ev cl a env M).bind fun x M => lift ((eGet M x y).map fun o => .bl o.isSome) M
  | .ninD k a, env, M => (ev cl k env M).bind fun y M => (ev cl a env M).bind fun x M => lift ((eGet M x y).map fun o => .bl (!o.isSome)) M
  | .slc a lo hi, env, M => (ev cl a env M).bind fun x M => (evO cl lo env M).bind fun l M => (evO cl hi env M).bind fun u M => lift (eSlc x l u) M
  | .rev a, env, M => (ev cl a env M).bind fun x M => lift (eRev x) M
  | .call f es more, env, M => (evs cl es env M).bind fun xs M => cl f (xs ++ more) M
  | .bi b es, env, M => (evs cl es env M).bind fun xs M => lift (eBi M b xs) M
  | .me b a es, env, M => (ev cl a env M).bind fun x M => (lift (recv M b x) M).bind fun _ M => (evs cl es env M).bind fun xs M => lift (eBi M b (x :: xs)) M
  | .rngL a, env, M => (ev cl a env M).bind fun x M => lift (bRange1 [x]) M
  | .rngL2 a b, env, M => (ev cl a env M).bind fun x M => (ev cl b env M).bind fun y M => lift (bRange2 [x, y]) M
  | .isi a t, env, M => (ev cl a env M).bind fun x M => lift ((isTy t x).map .bl) M
  | .lc e tg it, env, M => (evI cl it env M).bind fun xs M => (lcL (fun x M => match asT tg x (wipeE env tg.slots) with
      | some env' => (ev cl e env' M).bind fun y M => ok (some y) M
      | none => none) xs M []).bind fun ys M => if ys.length ≤ sizeLine then ok (.lst ys) M else none
  | .lcIf e tg it c, env, M => (evI cl it env M).bind fun xs M => (lcL (fun x M => match asT tg x (wipeE env tg.slots) with
      | some env' => (asB (ev cl c env' M)).bind fun t M => if t then (ev cl e env' M).bind fun y M => ok (some y) M else ok none M
      | none => none) xs M []).bind fun ys M => if ys.length ≤ sizeLine then ok (.lst ys) M else none
  | .dcIfM k e tg it c, env, M => (evI cl it env M).bind fun xs M => (dcL (fun x M => match asT tg x (wipeE env tg.slots) with
      | some env' => (asB (ev cl c env' M)).bind fun t M => if t then (ev cl k env' M).bind fun y M => (ev cl e env' M).bind fun z M => ok (some (y, z)) M else ok none M
      | none => none) xs M ([], [])).bind fun r M => if r.1.length < sizeLine ∧ D.lows 0 r.2 = true then ok (.cell M.length) (M ++ [.dic r.1 r.2]) else none
  | .fmt a, env, M => (ev cl a env M).bind fun x M => lift (eFmt x) M
  | .fstr es, env, M => evJ cl es Str.empty env M
  | .addM a b, env, M => (ev cl a env M).bind fun x M => (ev cl b env M).bind fun y M => match eAddM M x y with
    | some (d, M) => ok d M
    | none => none
  | .mkE x a, env, M => (ev cl a env M).bind fun _ M => ok (.exn x none) M
  | .mkL x a, env, M => (ev cl a env M).bind fun d M => mkLine x d M
  | .isE a _ t, env, M => (ev cl a env M).bind fun d M => lift ((isExn t d).map .bl) M
  | .isB a ys, env, M => (ev cl a env M).bind fun d M => lift (isBas ys d) M
  | .lineE a ys, env, M => (ev cl a env M).bind fun d M => lift (lineOf ys d) M
def evJ (cl : Calls) : CEs → Str → Env → Mem → Res D
  | .nil, acc, _, M => ok (.str acc) M
  | .cons e es, acc, env, M => (ev cl e env M).bind fun x M => match x with
    | .str y => if (acc ++ y).length ≤ sizeLine then evJ cl es (acc ++ y) env M else none
    | _ => none
def evs (cl : Calls) : CEs → Env → Mem → Res (List D)
  | .nil, _, M => ok [] M
  | .cons e es, env, M => (ev cl e env M).bind fun x M => (evs cl es env M).bind fun xs M => ok (x :: xs) M
def evO (cl : Calls) : CO → Env → Mem → Res (Option Int)
  | .no, _, M => ok none M
  | .at e, env, M => (ev cl e env M).bind fun x M => someI x M
/-- the items that are walked -/
def evI (cl : Calls) : CI → Env → Mem → Res (List D)
  | .seq e, env, M => (ev cl e env M).bind fun x M => match x with
    | .lst xs => ok xs M
    | .tup xs => ok xs M
    | _ => none
  | .rng e, env, M => (ev cl e env M).bind fun x M => match x with
    | .int n => if small62 n then ok (rangeD 0 n) M else none
    | _ => none
  | .rng2 a b, env, M => (ev cl a env M).bind fun x M => (ev cl b env M).bind fun y M => match x, y with
    | .int i, .int j => if small62 i && small62 j then ok (rangeD i j) M else none
    | _, _ => none
  | .enum e, env, M => (ev cl e env M).bind fun x M => match x with
    | .lst xs => ok (enumD 0 xs) M
    | _ => none
  | .zip a b, env, M => (ev cl a env M).bind fun x M => (ev cl b env M).bind fun y M => match x, y with
    | .lst xs, .lst ys => ok (zipD xs ys) M
    | .tup xs, .tup ys => ok (zipD xs ys) M
    | .tup xs, .lst ys => ok (zipD xs ys) M
    | _, _ => none
  | .keys i, env, M => match env[i]? with
    | some (some (.dic ks _)) => ok (ks.map fun k => match k with | .inl i => .int i | .inr s => .str s) M
    | _ => none
end

/-! ### statements -/
inductive Fl where
  | nx | brk | cont | ret (d : D) | exc (x : Exn)
abbrev SRes := Option (Fl × Env × Mem)

/-- a simple suite of an except clause: return d; slot i = d -/
inductive CH where
  | ret (d : D)
  | set (i : Nat) (d : D)
inductive CS where
  | asg (tg : Tg) (e : CE)
  | setI (o i e : CE)
  | setD (o i e : CE)
  | setDs (ts : CEs) (ks : CEs) (e : CE)
  | app (o e : CE)
  | ex (e : CE)
  | ret (e : CE)
  | retN
  | ite (c : CE) (a b : List CS)
  | whl (c : CE) (b : List CS)
  | for_ (tg : Tg) (it : CI) (b : List CS)
  | rais (c : Nat)
  | raisL (c : Nat) (e : CE)
  | tryA (b : List CS) (k i : Nat) (cs : List Nat) (n : Nat)
  | tryM (b : List CS) (hs : List (Nat × List Nat × CH)) (n : Nat)
  | frz (i : Nat)
  | pass
  | brk
  | cont

def Res.to {α : Type} (r : Res α) (env : Env) (k : α → Mem → SRes) : SRes :=
  match r with
  | none => none
  | some (.ok a M) => k a M
  | some (.er x M) => some (.exc x, env, M)
/-- so many turns of a while at most -/
def turns (c : Env → Mem → Res D) (b : Env → Mem → SRes) : Nat → Env → Mem → SRes
  | 0, _, _ => none
  | n + 1, env, M => (asB (c env M)).to env fun t M => if t then match b env M with
      | some (.nx, e, M) => turns c b n e M
      | some (.cont, e, M) => turns c b n e M
      | some (.brk, e, M) => some (.nx, e, M)
      | r => r
    else some (.nx, env, M)
open Classical in
noncomputable def whileS (c : Env → Mem → Res D) (b : Env → Mem → SRes) (env : Env) (M : Mem) : SRes :=
  if h : ∃ n, (turns c b n env M).isSome = true then turns c b (Classical.choose h) env M else none
def forS (tg : Tg) (b : Env → Mem → SRes) : List D → Env → Mem → SRes
  | [], env, M => some (.nx, env, M)
  | x :: xs, env, M => match asT tg x env with
    | none => none
    | some env => match b env M with
      | some (.nx, e, M) => forS tg b xs e M
      | some (.cont, e, M) => forS tg b xs e M
      | some (.brk, e, M) => some (.nx, e, M)
      | r => r
def putCell (M : Mem) (n : Nat) (c : Cell) : Mem := M.set n c
def eSetI (M : Mem) : D → D → D → Option Mem
  | .cell n, .int i, v => match M[n]? with
    | some (.lst xs) => match ixN xs.length i with
      | some j => if v.low 0 then some (putCell M n (.lst (xs.set j v))) else none
      | none => none
    | _ => none
  | _, _, _ => none
def eSetD (M : Mem) : D → D → D → Option Mem
  | .cell n, k, v => match M[n]?, keyOf k with
    | some (.dic ks xs), some k => if ks.length < sizeLine ∧ v.low 0 = true then some (putCell M n (.dic (putD ks xs k v).1 (putD ks xs k v).2)) else none
    | _, _ => none
  | _, _, _ => none
def eApp (M : Mem) : D → D → Option Mem
  | .cell n, v => match M[n]? with
    | some (.lst xs) => if xs.length < sizeLine ∧ v.low 0 = true then some (putCell M n (.lst (xs ++ [v]))) else none
    | _ => none
  | _, _ => none
/-- a list that may change -/
def isLc (M : Mem) : D → Option Unit
  | .cell n => match M[n]? with
    | some (.lst _) => some ()
    | _ => none
  | _ => none
def eFrz (M : Mem) : D → Option (D × Mem)
  | .cell n => match M[n]? with
    | some (.lst xs) => some (.lst xs, putCell M n .dead)
    | some (.dic ks xs) => some (.dic ks xs, putCell M n .dead)
    | _ => none
  | _ => none
def CEs.len : CEs → Nat
  | .nil => 0
  | .cons _ es => es.len + 1
def setDsS (cl : Calls) : CEs → CEs → List D → Env → Mem → SRes
  | .cons t ts, .cons k ks, v :: vs, env, M => (ev cl t env M).to env fun o M => (ev cl k env M).to env fun i M => match eSetD M o i v with
    | some M => setDsS cl ts ks vs env M
    | none => none
  | .nil, .nil, [], env, M => some (.nx, env, M)
  | _, _, _, _, _ => none
/-- an exception to the except clauses: (the class, the classes that it catches, its suite) -/
def runH : List (Nat × List Nat × CH) → Exn → Env → Mem → SRes
  | [], x, env, M => some (.exc x, env, M)
  | (_, cs, h) :: r, x, env, M => if cs.contains x.cls then (match h with
      | .ret d => some (.ret d, env, M)
      | .set i d => some (.nx, env.set i (some d), M)) else runH r x env M
mutual
noncomputable def ex (cl : Calls) : CS → Env → Mem → SRes
  | .asg tg e, env, M => (ev cl e env M).to env fun x M => match asT tg x env with
    | some env => some (.nx, env, M)
    | none => none
  | .setI o i e, env, M => (ev cl e env M).to env fun v M => (ev cl o env M).to env fun x M => (ev cl i env M).to env fun y M => match eSetI M x y v with
    | some M => some (.nx, env, M)
    | none => none
  | .setD o i e, env, M => (ev cl e env M).to env fun v M => (ev cl o env M).to env fun x M => (ev cl i env M).to env fun y M => match eSetD M x y v with
    | some M => some (.nx, env, M)
    | none => none
  | .setDs ts ks e, env, M => (ev cl e env M).to env fun x M => match x with
    | .tup vs => if vs.length = ts.len then setDsS cl ts ks vs env M else none
    | _ => none
  | .app o e, env, M => (ev cl o env M).to env fun x M => match isLc M x with
    | none => none
    | some _ => (ev cl e env M).to env fun v M => match eApp M x v with
      | some M => some (.nx, env, M)
      | none => none
  | .ex e, env, M => (ev cl e env M).to env fun _ M => some (.nx, env, M)
  | .ret e, env, M => (ev cl e env M).to env fun x M => some (.ret x, env, M)
  | .retN, env, M => some (.ret .non, env, M)
  | .ite c a b, env, M => (asB (ev cl c env M)).to env fun t M => if t then exs cl a env M else exs cl b env M
  | .whl c b, env, M => whileS (ev cl c) (exs cl b) env M
  | .for_ tg it b, env, M => (evI cl it env M).to env fun xs M => forS tg (exs cl b) xs env M
  | .rais c, env, M => some (.exc ⟨c, none⟩, env, M)
  | .raisL c e, env, M => (ev cl e env M).to env fun d M => some (.exc ⟨c, some d⟩, env, M)
  | .tryA b _ i cs n, env, M => match exs cl b env M with
    | some (.exc x, env, M) => if x.cls < n then (if cs.contains x.cls then (match x.line with
        | some d => if i < env.length then some (.ret d, env, M) else none
        | none => none) else some (.exc x, env, M)) else none
    | r => r
  | .tryM b hs n, env, M => match exs cl b env M with
    | some (.exc x, env, M) => if x.cls < n then runH hs x env M else none
    | r => r
  | .frz i, env, M => match env[i]? with
    | some (some d) => match eFrz M d with
      | some (d', M') => some (.nx, env.set i (some d'), M')
      | none => none
    | _ => none
  | .pass, env, M => some (.nx, env, M)
  | .brk, env, M => some (.brk, env, M)
  | .cont, env, M => some (.cont, env, M)
noncomputable def exs (cl : Calls) : List CS → Env → Mem → SRes
  | [], env, M => some (.nx, env, M)
  | s :: r, env, M => match ex cl s env M with
    | some (.nx, env, M) => exs cl r env M
    | r => r
end

/-! ### defs -/
structure Fd where
  arity : Nat
  slots : Nat
  body : List CS
def leave (n : Nat) (d : D) (M : Mem) : Res D := if d.low n then ok d (M.take n) else ok d M
def Exn.low (n : Nat) (x : Exn) : Bool := match x.line with
  | none => true
  | some d => d.low n
noncomputable def runF (cl : Calls) (fd : Fd) (args : List D) (M : Mem) : Res D :=
  if args.length = fd.arity then
    match exs cl fd.body (args.map some ++ List.replicate (fd.slots - args.length) none) M with
    | some (.ret d, _, M') => leave M.length d M'
    | some (.nx, _, M') => leave M.length .non M'
    | some (.exc x, _, M') => if x.low M.length then some (.er x (M'.take M.length)) else none
    | _ => none
  else none
abbrev Tab := Nat → Option Fd
noncomputable def callN (T : Tab) : Nat → Calls
  | 0 => fun _ _ _ => none
  | n + 1 => fun f args M => match T f with
    | some fd => runF (callN T n) fd args M
    | none => none

end Rf
end T_RfCore
section T_RfRel
set_option Elab.async false
set_option linter.all false
set_option maxRecDepth 100000
set_option maxHeartbeats 1000000
/-! Rf: data in the heap -/
namespace Rf
open PySem PySem.Spec PyProof.Rows L2
abbrev Ph := Nat → Option Addr
/-- a tuple that is known to the frozen part, or stands in the written part -/
def TupAt (K : PySem.W.Frag) (F : Hp) (a : Addr) (xs : List V) : Prop :=
  F a = some (.tup xs) ∨ ∃ (o : Obj) (its : Array Value) (n : Nat), K.lookup a = some o ∧ o.cls = .type "tuple" ∧ o.data = .seq its n ∧ its.size ≤ sizeLine ∧ Vals xs its.toList
mutual
inductive Rel (K : PySem.W.Frag) (ph : Ph) (F : Hp) : V → D → Prop
  | non : Rel K ph F .non .non
  | bl (b : Bool) : Rel K ph F (.bl b) (.bl b)
  | int (i : Int) : Rel K ph F (.int i) (.int i)
  | str (s : Str) : Rel K ph F (.str s) (.str s)
  | lst {a : Addr} {xs : List V} {ds : List D} : F a = some (.lst xs) → Rels K ph F xs ds → Rel K ph F (.ref a) (.lst ds)
  | tup {a : Addr} {xs : List V} {ds : List D} : TupAt K F a xs → Rels K ph F xs ds → Rel K ph F (.ref a) (.tup ds)
  | dic {a : Addr} {ks : List Key} {xs : List V} {ds : List D} : Rd F a (.dK (ks.zip xs)) → ks.length = xs.length → Rels K ph F xs ds → Rel K ph F (.ref a) (.dic ks ds)
  | cell {n : Nat} {a : Addr} : ph n = some a → Rel K ph F (.ref a) (.cell n)
  | scr {a : Addr} {ns : List Int} : SqL K F a (ns.map V.int) → Rel K ph F (.ref a) (.scr ns)
  | exn {a : Addr} {x : Str} : F a = some (ExO (.ref (He.ga K x)) a) → Rel K ph F (.ref a) (.exn x none)
  | exl {a d : Addr} {x : Str} {i : Int} : F a = some (exo a (He.ga K x) (some d)) → F d = some (.xd [(("line" : Str), .int i)]) → Rel K ph F (.ref a) (.exn x (some i))
inductive Rels (K : PySem.W.Frag) (ph : Ph) (F : Hp) : List V → List D → Prop
  | nil : Rels K ph F [] []
  | cons {v : V} {d : D} {vs : List V} {ds : List D} : Rel K ph F v d → Rels K ph F vs ds → Rels K ph F (v :: vs) (d :: ds)
end
structure Le (ph : Ph) (F : Hp) (ph' : Ph) (F' : Hp) : Prop where
  ph : ∀ n a, ph n = some a → ph' n = some a
  lst : ∀ a xs, F a = some (.lst xs) → F' a = some (.lst xs)
  tup : ∀ a xs, F a = some (.tup xs) → F' a = some (.tup xs)
  dk : ∀ a kvs, Rd F a (.dK kvs) → Rd F' a (.dK kvs)
  fz : ∀ a o xs, F a = some (.frz o (.lst xs)) → F' a = some (.frz o (.lst xs))
  et : ∀ a φ, F a = some (.ext φ) → F' a = some (.ext φ)
  xd : ∀ a fs, F a = some (.xd fs) → F' a = some (.xd fs)
theorem Le.refl (ph : Ph) (F : Hp) : Le ph F ph F := ⟨fun _ _ h => h, fun _ _ h => h, fun _ _ h => h, fun _ _ h => h, fun _ _ _ h => h, fun _ _ h => h, fun _ _ h => h⟩
theorem Le.trans {p1 p2 p3 : Ph} {F1 F2 F3 : Hp} (a : Le p1 F1 p2 F2) (b : Le p2 F2 p3 F3) : Le p1 F1 p3 F3 :=
  ⟨fun n x h => b.ph n x (a.ph n x h), fun n x h => b.lst n x (a.lst n x h), fun n x h => b.tup n x (a.tup n x h), fun n x h => b.dk n x (a.dk n x h), fun n x y h => b.fz n x y (a.fz n x y h), fun n x h => b.et n x (a.et n x h), fun n x h => b.xd n x (a.xd n x h)⟩
theorem TupAt.mono {K : PySem.W.Frag} {p p' : Ph} {F F' : Hp} (l : Le p F p' F') {a : Addr} {xs : List V} (h : TupAt K F a xs) : TupAt K F' a xs :=
  h.elim (fun h => .inl (l.tup a xs h)) .inr
theorem Le.sq {K : PySem.W.Frag} {p p' : Ph} {F F' : Hp} (l : Le p F p' F') {a : Addr} {xs : List V} (h : SqL K F a xs) : SqL K F' a xs := by
  rcases h with (h | ⟨o, h⟩) | h
  · exact .inl (.inl (l.lst _ _ h))
  · exact .inl (.inr ⟨o, l.fz _ _ _ h⟩)
  · exact .inr h
mutual
theorem Rel.mono {K : PySem.W.Frag} {p p' : Ph} {F F' : Hp} (l : Le p F p' F') : ∀ {v : V} {d : D}, Rel K p F v d → Rel K p' F' v d
  | _, _, .non => .non
  | _, _, .bl b => .bl b
  | _, _, .int i => .int i
  | _, _, .str s => .str s
  | _, _, .lst h r => .lst (l.lst _ _ h) (Rels.mono l r)
  | _, _, .tup h r => .tup (h.mono l) (Rels.mono l r)
  | _, _, .dic h e r => .dic (l.dk _ _ h) e (Rels.mono l r)
  | _, _, .cell h => .cell (l.ph _ _ h)
  | _, _, .scr h => .scr (l.sq h)
  | _, _, .exn h => .exn (l.et _ _ h)
  | _, _, .exl h h2 => .exl (l.et _ _ h) (l.xd _ _ h2)
theorem Rels.mono {K : PySem.W.Frag} {p p' : Ph} {F F' : Hp} (l : Le p F p' F') : ∀ {v : List V} {d : List D}, Rels K p F v d → Rels K p' F' v d
  | _, _, .nil => .nil
  | _, _, .cons h r => .cons (Rel.mono l h) (Rels.mono l r)
end
section
variable {K : PySem.W.Frag} {p : Ph} {F : Hp}
theorem Rels.length : ∀ {vs : List V} {ds : List D}, Rels K p F vs ds → vs.length = ds.length
  | _, _, .nil => rfl
  | _, _, .cons _ r => by rw [List.length_cons, List.length_cons, Rels.length r]
theorem Rels.get : ∀ {vs : List V} {ds : List D} {i : Nat} {d : D}, Rels K p F vs ds → ds[i]? = some d → ∃ v, vs[i]? = some v ∧ Rel K p F v d
  | _, _, _, _, .nil, e => by simp at e
  | _, _, 0, _, .cons h _, e => by simp at e; subst e; exact ⟨_, rfl, h⟩
  | _, _, i + 1, d, .cons _ r, e => by
    obtain ⟨v, h1, h2⟩ := Rels.get (i := i) (d := d) r (by simpa using e)
    exact ⟨v, by simpa using h1, h2⟩
theorem Rels.getV : ∀ {vs : List V} {ds : List D} {i : Nat} {v : V}, Rels K p F vs ds → vs[i]? = some v → ∃ d, ds[i]? = some d ∧ Rel K p F v d
  | _, _, _, _, .nil, e => by simp at e
  | _, _, 0, _, .cons h _, e => by simp at e; subst e; exact ⟨_, rfl, h⟩
  | _, _, i + 1, v, .cons _ r, e => by
    obtain ⟨d, h1, h2⟩ := Rels.getV (i := i) (v := v) r (by simpa using e)
    exact ⟨d, by simpa using h1, h2⟩
theorem Rels.append : ∀ {vs ws : List V} {ds es : List D}, Rels K p F vs ds → Rels K p F ws es → Rels K p F (vs ++ ws) (ds ++ es)
  | _, _, _, _, .nil, s => s
  | _, _, _, _, .cons h r, s => .cons h (Rels.append r s)
theorem Rels.take (n : Nat) : ∀ {vs : List V} {ds : List D}, Rels K p F vs ds → Rels K p F (vs.take n) (ds.take n)
  | _, _, .nil => by simp; exact .nil
  | _, _, .cons h r => by
    cases n with
    | zero => exact .nil
    | succ n => exact .cons h (Rels.take n r)
theorem Rels.drop (n : Nat) : ∀ {vs : List V} {ds : List D}, Rels K p F vs ds → Rels K p F (vs.drop n) (ds.drop n)
  | _, _, .nil => by simp; exact .nil
  | _, _, .cons h r => by
    cases n with
    | zero => exact .cons h r
    | succ n => exact Rels.drop n r
theorem Rels.reverse : ∀ {vs : List V} {ds : List D}, Rels K p F vs ds → Rels K p F vs.reverse ds.reverse
  | _, _, .nil => .nil
  | _, _, .cons h r => by
    rw [List.reverse_cons, List.reverse_cons]
    exact Rels.append (Rels.reverse r) (.cons h .nil)
theorem Rels.set {v : V} {d : D} (h : Rel K p F v d) : ∀ {vs : List V} {ds : List D} (i : Nat), Rels K p F vs ds → Rels K p F (vs.set i v) (ds.set i d)
  | _, _, _, .nil => by simp; exact .nil
  | _, _, 0, .cons _ r => .cons h r
  | _, _, i + 1, .cons g r => .cons g (Rels.set h i r)
theorem Rels.rep {vs : List V} {ds : List D} (r : Rels K p F vs ds) : ∀ n : Nat, Rels K p F (List.replicate n vs).flatten (rep n ds)
  | 0 => .nil
  | n + 1 => by
    unfold Rf.rep
    rw [List.replicate_succ, List.replicate_succ, List.flatten_cons, List.flatten_cons]
    exact Rels.append r (Rels.rep r n)
end

/-- a cell's thing in the heap -/
def CellOk (K : PySem.W.Frag) (p : Ph) (F H : Hp) (a : Addr) : Cell → Prop
  | .lst ds => ∃ xs, H a = some (.lst xs) ∧ Rels K p F xs ds ∧ D.lows 0 ds = true
  | .dic ks ds => ∃ xs, H a = some (.dK (ks.zip xs)) ∧ ks.length = xs.length ∧ Rels K p F xs ds ∧ D.lows 0 ds = true
  | .ins _ _ _ => False
  | .dead => True
structure RM (K : PySem.W.Frag) (p : Ph) (F : Hp) (M : Mem) (H : Hp) : Prop where
  fro : ∀ a o, F a = some o → H a = some o
  dom : ∀ n, n < M.length ↔ ∃ a, p n = some a
  inj : ∀ n m a, p n = some a → p m = some a → n = m
  liv : ∀ n a, p n = some a → H a ≠ none
  cell : ∀ n a c, p n = some a → M[n]? = some c → c ≠ .dead → F a = none ∧ CellOk K p F H a c
/-- what happens to a heap -/
structure Step (p : Ph) (F H : Hp) (p' : Ph) (F' H' : Hp) : Prop extends Le p F p' F' where
  keep : ∀ a o, H a = some o → (∀ n, p n ≠ some a) → H' a = some o
  there : ∀ a, H' a = none → H a = none
  new : ∀ n a, p' n = some a → p n = some a ∨ H a = none
  fnew : ∀ a o, F' a = some o → F a = some o ∨ H a = none ∨ ∃ n, p n = some a
  fk : ∀ a o kvs, F a = some (.frz o (.dK kvs)) → F' a = some (.frz o (.dK kvs))
theorem Step.refl (p : Ph) (F H : Hp) : Step p F H p F H := ⟨Le.refl p F, fun _ _ h _ => h, fun _ h => h, fun _ _ h => .inl h, fun _ _ h => .inl h, fun _ _ _ h => h⟩
theorem Step.trans {p1 p2 p3 : Ph} {F1 F2 F3 H1 H2 H3 : Hp} (a : Step p1 F1 H1 p2 F2 H2) (b : Step p2 F2 H2 p3 F3 H3) : Step p1 F1 H1 p3 F3 H3 where
  toLe := a.toLe.trans b.toLe
  keep := fun x o h hn => b.keep x o (a.keep x o h hn) fun n e => by
    rcases a.new n x e with h1 | h1
    · exact hn n h1
    · rw [h1] at h; cases h
  there := fun x h => a.there x (b.there x h)
  new := fun n x h => by
    rcases b.new n x h with h | h
    · exact a.new n x h
    · exact .inr (a.there x h)
  fk := fun a o kvs h => b.fk a o kvs (‹Step p1 F1 H1 p2 F2 H2›.fk a o kvs h)
  fnew := fun x o h => by
    rcases b.fnew x o h with h | h | ⟨n, h⟩
    · exact a.fnew x o h
    · exact .inr (.inl (a.there x h))
    · rcases a.new n x h with h | h
      · exact .inr (.inr ⟨n, h⟩)
      · exact .inr (.inl h)
section
variable {K : PySem.W.Frag} {p : Ph} {F H : Hp} {M : Mem}
theorem RM.free (r : RM K p F M H) {a : Addr} (h : H a = none) : F a = none := by
  cases e : F a with
  | none => rfl
  | some o => rw [r.fro a o e] at h; cases h
theorem CellOk.keep {p' : Ph} {F' H' : Hp} {a : Addr} {c : Cell} (l : Le p F p' F') (h : CellOk K p F H a c) (e : H' a = H a) : CellOk K p' F' H' a c := by
  cases c with
  | lst ds => obtain ⟨xs, h1, h2, h3⟩ := h; exact ⟨xs, by rw [e]; exact h1, h2.mono l, h3⟩
  | dic ks ds => obtain ⟨xs, h1, h0, h2, h3⟩ := h; exact ⟨xs, by rw [e]; exact h1, h0, h2.mono l, h3⟩
  | ins _ _ _ => exact h
  | dead => trivial
theorem upd_free {H : Hp} {a b : Addr} {o : HO} (h : H a ≠ none) (hb : H b = none) : upd H b o a = H a := upd_ne fun e => h (by rw [e]; exact hb)
theorem upd_none {H : Hp} {a b : Addr} {o : HO} (h : upd H b o a = none) : H a = none := by
  unfold upd at h
  split at h
  · cases h
  · exact h
/-- a new frozen thing -/
theorem le_new {o : HO} {q : Addr} (h : F q = none) : Le p F p (upd F q o) where
  ph := fun _ _ h => h
  lst := fun a xs e => by rw [upd_free (by rw [e]; simp) h]; exact e
  tup := fun a xs e => by rw [upd_free (by rw [e]; simp) h]; exact e
  dk := fun a kvs e => by
    rcases e with e | ⟨u, e⟩
    · exact .inl (by rw [upd_free (by rw [e]; simp) h]; exact e)
    · exact .inr ⟨u, by rw [upd_free (by rw [e]; simp) h]; exact e⟩
  fz := fun a u xs e => by rw [upd_free (by rw [e]; simp) h]; exact e
  et := fun a φ e => by rw [upd_free (by rw [e]; simp) h]; exact e
  xd := fun a fs e => by rw [upd_free (by rw [e]; simp) h]; exact e
theorem step_new {o : HO} {q : Addr} (r : RM K p F M H) (h : H q = none) : Step p F H p (upd F q o) (upd H q o) where
  toLe := le_new (r.free h)
  keep := fun a u e _ => by rw [upd_free (by rw [e]; simp) h]; exact e
  there := fun a e => upd_none e
  new := fun _ _ e => .inl e
  fk := fun a u kvs e => by rw [upd_free (by rw [e]; simp) (r.free h)]; exact e
  fnew := fun a u e => by
    by_cases hq : a = q
    · subst hq; exact .inr (.inl h)
    · rw [upd_ne hq] at e; exact .inl e
theorem CellOk.some {a : Addr} {c : Cell} (h : CellOk K p F H a c) (hc : c ≠ .dead) : H a ≠ none := by
  cases c with
  | lst ds => obtain ⟨xs, h1, _⟩ := h; rw [h1]; simp
  | dic ks ds => obtain ⟨xs, h1, _⟩ := h; rw [h1]; simp
  | ins _ _ _ => exact h.elim
  | dead => exact absurd rfl hc
theorem rm_new {o : HO} {q : Addr} (r : RM K p F M H) (h : H q = none) : RM K p (upd F q o) M (upd H q o) where
  fro := fun a u e => by
    by_cases hq : a = q
    · subst hq; rw [upd_same] at e ⊢; exact e
    · rw [upd_ne hq] at e ⊢; exact r.fro a u e
  dom := r.dom
  inj := r.inj
  liv := fun n a e => by rw [upd_free (r.liv n a e) h]; exact r.liv n a e
  cell := fun n a c e1 e2 hc => by
    obtain ⟨h1, h2⟩ := r.cell n a c e1 e2 hc
    have hn := h2.some hc
    have hq : a ≠ q := fun e => hn (by rw [e]; exact h)
    exact ⟨by rw [upd_ne hq]; exact h1, h2.keep (le_new (r.free h)) (upd_ne hq)⟩
/-- a new cell -/
def phNew (p : Ph) (n : Nat) (q : Addr) : Ph := fun m => if m = n then some q else p m
theorem phNew_same {n : Nat} {q : Addr} : phNew p n q n = some q := by unfold phNew; rw [if_pos rfl]
theorem phNew_ne {n m : Nat} {q : Addr} (h : m ≠ n) : phNew p n q m = p m := by unfold phNew; rw [if_neg h]
theorem RM.above (r : RM K p F M H) : p M.length = none := by
  cases e : p M.length with
  | none => rfl
  | some a => exact absurd ((r.dom M.length).mpr ⟨a, e⟩) (Nat.lt_irrefl _)
theorem le_cell {q : Addr} (r : RM K p F M H) : Le p F (phNew p M.length q) F where
  ph := fun n a e => by rw [phNew_ne (fun h => by rw [h, r.above] at e; cases e)]; exact e
  lst := fun _ _ h => h
  tup := fun _ _ h => h
  dk := fun _ _ h => h
  fz := fun _ _ _ h => h
  et := fun _ _ h => h
  xd := fun _ _ h => h
theorem step_cell {o : HO} {q : Addr} (r : RM K p F M H) (h : H q = none) : Step p F H (phNew p M.length q) F (upd H q o) where
  toLe := le_cell r
  keep := fun a u e _ => by rw [upd_free (by rw [e]; simp) h]; exact e
  there := fun a e => upd_none e
  new := fun n a e => by
    by_cases hn : n = M.length
    · subst hn; rw [phNew_same] at e; cases e; exact .inr h
    · rw [phNew_ne hn] at e; exact .inl e
  fk := fun _ _ _ h => h
  fnew := fun _ _ e => .inl e
theorem rm_cell {o : HO} {q : Addr} {c : Cell} (r : RM K p F M H) (h : H q = none) (hc : CellOk K (phNew p M.length q) F (upd H q o) q c) : RM K (phNew p M.length q) F (M ++ [c]) (upd H q o) where
  fro := fun a u e => by rw [upd_free (by rw [r.fro a u e]; simp) h]; exact r.fro a u e
  dom := fun n => by
    rw [List.length_append, List.length_singleton]
    by_cases hn : n = M.length
    · subst hn; rw [phNew_same]; exact ⟨fun _ => ⟨q, rfl⟩, fun _ => Nat.lt_succ_self _⟩
    · rw [phNew_ne hn, ← r.dom n]; omega
  inj := fun n m a e1 e2 => by
    by_cases hn : n = M.length
    · by_cases hm : m = M.length
      · rw [hn, hm]
      · subst hn; rw [phNew_same] at e1; cases e1
        rw [phNew_ne hm] at e2
        exact absurd h (r.liv m _ e2)
    · rw [phNew_ne hn] at e1
      by_cases hm : m = M.length
      · subst hm; rw [phNew_same] at e2; cases e2
        exact absurd h (r.liv n _ e1)
      · rw [phNew_ne hm] at e2; exact r.inj n m a e1 e2
  liv := fun n a e => by
    by_cases hn : n = M.length
    · subst hn; rw [phNew_same] at e; cases e; rw [upd_same]; simp
    · rw [phNew_ne hn] at e; rw [upd_free (r.liv n a e) h]; exact r.liv n a e
  cell := fun n a d e1 e2 hd => by
    by_cases hn : n = M.length
    · subst hn
      rw [phNew_same] at e1; cases e1
      rw [List.getElem?_append_right (Nat.le_refl _), Nat.sub_self] at e2
      cases e2
      exact ⟨r.free h, hc⟩
    · rw [phNew_ne hn] at e1
      have hlt : n < M.length := (r.dom n).mpr ⟨a, e1⟩
      rw [List.getElem?_append_left hlt] at e2
      obtain ⟨h1, h2⟩ := r.cell n a d e1 e2 hd
      exact ⟨h1, h2.keep (le_cell r) (upd_free (r.liv n a e1) h)⟩
/-- a cell is written -/
theorem step_set {o : HO} {n : Nat} {a : Addr} (r : RM K p F M H) (e : p n = some a) : Step p F H p F (upd H a o) where
  toLe := Le.refl p F
  keep := fun b u h hn => by rw [upd_ne (fun z => hn n (by rw [z]; exact e))]; exact h
  there := fun b h => upd_none h
  new := fun _ _ h => .inl h
  fk := fun _ _ _ h => h
  fnew := fun _ _ e => .inl e
theorem rm_set {o : HO} {n : Nat} {a : Addr} {c d : Cell} (r : RM K p F M H) (e : p n = some a) (e2 : M[n]? = some c) (hc : c ≠ .dead) (hd : CellOk K p F (upd H a o) a d) : RM K p F (M.set n d) (upd H a o) where
  fro := fun b u h => by
    have hb : b ≠ a := fun z => by rw [z, (r.cell n a c e e2 hc).1] at h; cases h
    rw [upd_ne hb]; exact r.fro b u h
  dom := fun m => by rw [List.length_set]; exact r.dom m
  inj := r.inj
  liv := fun m b h => by
    by_cases hb : b = a
    · subst hb; rw [upd_same]; simp
    · rw [upd_ne hb]; exact r.liv m b h
  cell := fun m b x h1 h2 hx => by
    by_cases hm : m = n
    · subst hm
      rw [e] at h1; cases h1
      have hlt : m < M.length := (r.dom m).mpr ⟨_, e⟩
      rw [List.getElem?_set_self hlt] at h2
      cases h2
      exact ⟨(r.cell m a c e e2 hc).1, hd⟩
    · rw [List.getElem?_set_ne (Ne.symm hm)] at h2
      obtain ⟨q1, q2⟩ := r.cell m b x h1 h2 hx
      have hb : b ≠ a := fun z => hm (r.inj m n a (by rw [← z]; exact h1) e)
      exact ⟨q1, q2.keep (Le.refl p F) (upd_ne hb)⟩
/-- a cell is frozen: nothing happens in the heap -/
theorem step_frz {n : Nat} {a : Addr} {c : Cell} {o : HO} (r : RM K p F M H) (e : p n = some a) (e2 : M[n]? = some c) (hc : c ≠ .dead) : Step p F H p (upd F a o) H where
  toLe := le_new (r.cell n a c e e2 hc).1
  keep := fun _ _ h _ => h
  there := fun _ h => h
  new := fun _ _ h => .inl h
  fk := fun b u kvs h => by rw [upd_free (by rw [h]; simp) (r.cell n a c e e2 hc).1]; exact h
  fnew := fun b u h => by
    by_cases hb : b = a
    · subst hb; exact .inr (.inr ⟨n, e⟩)
    · rw [upd_ne hb] at h; exact .inl h
theorem rm_frz {n : Nat} {a : Addr} {c : Cell} {o : HO} (r : RM K p F M H) (e : p n = some a) (e2 : M[n]? = some c) (hc : c ≠ .dead) (ho : H a = some o) : RM K p (upd F a o) (M.set n .dead) H where
  fro := fun b u h => by
    by_cases hb : b = a
    · subst hb; rw [upd_same] at h; cases h; exact ho
    · rw [upd_ne hb] at h; exact r.fro b u h
  dom := fun m => by rw [List.length_set]; exact r.dom m
  inj := r.inj
  liv := r.liv
  cell := fun m b x h1 h2 hx => by
    have hlt : n < M.length := (r.dom n).mpr ⟨_, e⟩
    by_cases hm : m = n
    · subst hm
      rw [List.getElem?_set_self hlt] at h2
      cases h2
      exact absurd rfl hx
    · rw [List.getElem?_set_ne (Ne.symm hm)] at h2
      obtain ⟨q1, q2⟩ := r.cell m b x h1 h2 hx
      have hb : b ≠ a := fun z => hm (r.inj m n a (by rw [← z]; exact h1) e)
      exact ⟨by rw [upd_ne hb]; exact q1, q2.keep (le_new (r.cell n a c e e2 hc).1) rfl⟩
end
/-! ### a def's end: the cells that it made are forgotten -/
def phCut (p : Ph) (n : Nat) : Ph := fun m => if m < n then p m else none
theorem lows_cons {n : Nat} {d : D} {ds : List D} : D.lows n (d :: ds) = true ↔ d.low n = true ∧ D.lows n ds = true := by simp [D.lows, Bool.and_eq_true]
mutual
theorem D.low_mono {n m : Nat} (h : n ≤ m) : ∀ d : D, d.low n = true → d.low m = true
  | .non, _ => rfl
  | .bl _, _ => rfl
  | .int _, _ => rfl
  | .str _, _ => rfl
  | .scr _, _ => rfl
  | .exn _ _, _ => rfl
  | .cell k, l => decide_eq_true (Nat.lt_of_lt_of_le (of_decide_eq_true (show decide (k < n) = true from l)) h)
  | .tup xs, l => D.lows_mono h xs l
  | .lst xs, l => D.lows_mono h xs l
  | .dic _ xs, l => D.lows_mono h xs l
theorem D.lows_mono {n m : Nat} (h : n ≤ m) : ∀ d : List D, D.lows n d = true → D.lows m d = true
  | [], _ => rfl
  | d :: ds, l => lows_cons.mpr ⟨D.low_mono h d (lows_cons.mp l).1, D.lows_mono h ds (lows_cons.mp l).2⟩
end
section
variable {K : PySem.W.Frag} {p q : Ph} {F H : Hp} {M : Mem}
mutual
/-- where the cells below n stand alike -/
theorem Rel.same {n : Nat} (e : ∀ m a, m < n → p m = some a → q m = some a) : ∀ {v : V} {d : D}, Rel K p F v d → d.low n = true → Rel K q F v d
  | _, _, .non, _ => .non
  | _, _, .bl b, _ => .bl b
  | _, _, .int i, _ => .int i
  | _, _, .str s, _ => .str s
  | _, _, .lst h r, l => .lst h (Rels.same e r l)
  | _, _, .tup h r, l => .tup h (Rels.same e r l)
  | _, _, .dic h z r, l => .dic h z (Rels.same e r l)
  | _, .cell m, .cell h, l => .cell (e m _ (of_decide_eq_true (show decide (m < n) = true from l)) h)
  | _, _, .scr h, _ => .scr h
  | _, _, .exn h, _ => .exn h
  | _, _, .exl h h2, _ => .exl h h2
theorem Rels.same {n : Nat} (e : ∀ m a, m < n → p m = some a → q m = some a) : ∀ {v : List V} {d : List D}, Rels K p F v d → D.lows n d = true → Rels K q F v d
  | _, _, .nil, _ => .nil
  | _, _, .cons h r, l => .cons (Rel.same e h (lows_cons.mp l).1) (Rels.same e r (lows_cons.mp l).2)
end
theorem Rels.pure {vs : List V} {ds : List D} (r : Rels K p F vs ds) (l : D.lows 0 ds = true) : Rels K q F vs ds := r.same (fun _ _ h => absurd h (Nat.not_lt_zero _)) l
theorem Rel.pure {v : V} {d : D} (r : Rel K p F v d) (l : d.low 0 = true) : Rel K q F v d := r.same (fun _ _ h => absurd h (Nat.not_lt_zero _)) l
theorem CellOk.pure {a : Addr} {c : Cell} (h : CellOk K p F H a c) : CellOk K q F H a c := by
  cases c with
  | lst ds => obtain ⟨xs, h1, h2, h3⟩ := h; exact ⟨xs, h1, h2.pure h3, h3⟩
  | dic ks ds => obtain ⟨xs, h1, h0, h2, h3⟩ := h; exact ⟨xs, h1, h0, h2.pure h3, h3⟩
  | ins _ _ _ => exact h
  | dead => trivial
/-- p' as p, below n -/
theorem rm_cut {n : Nat} {p0 : Ph} (r : RM K p F M H) (d0 : ∀ m, m < n ↔ ∃ a, p0 m = some a) (e : ∀ m a, p0 m = some a → p m = some a) : RM K p0 F (M.take n) H where
  fro := r.fro
  dom := fun m => by
    rw [List.length_take, ← d0 m]
    constructor
    · intro h; omega
    · intro h
      obtain ⟨a, ha⟩ := (d0 m).mp h
      have := (r.dom m).mpr ⟨a, e m a ha⟩
      omega
  inj := fun m k a h1 h2 => r.inj m k a (e m a h1) (e k a h2)
  liv := fun m a h => r.liv m a (e m a h)
  cell := fun m a c h1 h2 hc => by
    have hm : m < n := (d0 m).mpr ⟨a, h1⟩
    rw [List.getElem?_take_of_lt hm] at h2
    obtain ⟨q1, q2⟩ := r.cell m a c (e m a h1) h2 hc
    exact ⟨q1, q2.pure⟩
end
end Rf
end T_RfRel
section T_RfOp
set_option Elab.async false
set_option linter.all false
set_option maxRecDepth 100000
set_option maxHeartbeats 2000000
/-! Rf: operators by data -/
namespace Rf
open PySem PySem.Spec PyProof.Rows L2
section
variable {X : Cx} {p : Ph} {F H : Hp} {M : Mem}
/-- an operator's reading by data: it ends well, and changes nothing that stands -/
def rB (K : PySem.W.Frag) (g : Mem → D → D → Option D) : R2 := fun x y H Q => ∃ p F M d e r, RM K p F M H ∧ Rel K p F x d ∧ Rel K p F y e ∧ g M d e = some r ∧
  ∀ p' F' H' v, Step p F H p' F' H' → RM K p' F' M H' → Rel K p' F' v r → Q v H'
def rA (K : PySem.W.Frag) (g : Mem → List D → Option D) : List V → Hp → VK → Prop := fun xs H Q => ∃ p F M ds r, RM K p F M H ∧ Rels K p F xs ds ∧ g M ds = some r ∧
  ∀ p' F' H' v, Step p F H p' F' H' → RM K p' F' M H' → Rel K p' F' v r → Q v H'
theorem TupAt.sq {K : PySem.W.Frag} {a : Addr} {xs : List V} (r : RM K p F M H) (h : TupAt K F a xs) : SqT K H a xs := by
  rcases h with h | h
  · exact .inl (.inl (r.fro _ _ h))
  · exact .inr h
theorem RM.sqs {K : PySem.W.Frag} {a : Addr} {xs : List V} (r : RM K p F M H) (h : SqL K F a xs) : SqL K H a xs := by
  rcases h with (h | ⟨o, h⟩) | h
  · exact .inl (.inl (r.fro _ _ h))
  · exact .inl (.inr ⟨o, r.fro _ _ h⟩)
  · exact .inr h
theorem RM.rdk {K : PySem.W.Frag} {a : Addr} {kvs : List (Key × V)} (r : RM K p F M H) (h : Rd F a (.dK kvs)) : Rd H a (.dK kvs) := by
  rcases h with h | ⟨o, h⟩
  · exact .inl (r.fro _ _ h)
  · exact .inr ⟨o, r.fro _ _ h⟩
/-- a new frozen list, tuple -/
theorem new_lst {K : PySem.W.Frag} {xs : List V} {ds : List D} {q : Addr} {Q : VK} (r : RM K p F M H) (h : H q = none) (rel : Rels K p F xs ds)
    (k : ∀ p' F' H' v, Step p F H p' F' H' → RM K p' F' M H' → Rel K p' F' v (.lst ds) → Q v H') : Q (.ref q) (upd H q (.lst xs)) :=
  k p (upd F q (.lst xs)) _ _ (step_new r h) (rm_new r h) (.lst upd_same (rel.mono (le_new (r.free h))))
theorem new_tup {K : PySem.W.Frag} {xs : List V} {ds : List D} {q : Addr} {Q : VK} (r : RM K p F M H) (h : H q = none) (rel : Rels K p F xs ds)
    (k : ∀ p' F' H' v, Step p F H p' F' H' → RM K p' F' M H' → Rel K p' F' v (.tup ds) → Q v H') : Q (.ref q) (upd H q (.tup xs)) :=
  k p (upd F q (.tup xs)) _ _ (step_new r h) (rm_new r h) (.tup (.inl upd_same) (rel.mono (le_new (r.free h))))
theorem log2_le {i : Int} (h : bitsOk i = true) : i.natAbs.log2 < 500000 := of_decide_eq_true h

theorem op_addD : OpR X (binaryOp .Add) (rB X.K fun M => eOp M .add) := by
  intro pins s σ H x y v u Q I rx ry h
  obtain ⟨p, F, M, d, e, r, rm, r1, r2, he, q⟩ := h
  cases r1 <;> cases r2 <;> first | (cases he; done) | skip
  case int.int =>
    cases he
    exact op_add pins s σ H _ _ v u Q I rx ry ⟨_, _, rfl, rfl, q _ _ _ _ (Step.refl ..) rm (.int _)⟩
  case bl.int =>
    cases he
    obtain ⟨t', rfl⟩ := ry
    have rx : v = .bool _ := rx
    subst rx
    exact PySem.IntBool.add_bool_int ⟨.int _, _, I.tok _, ⟨_, rfl⟩, q _ _ _ _ (Step.refl ..) rm (.int _)⟩
  case str.str a b =>
    have he : (if a.length + b.length ≤ sizeLine then some (D.str (a ++ b)) else none) = some r := he
    split at he
    · cases he
      rename_i hl
      exact op_add_str pins s σ H _ _ v u Q I rx ry ⟨_, _, rfl, rfl, hl, q _ _ _ _ (Step.refl ..) rm (.str _)⟩
    · cases he
  case lst.lst _ _ a h1 s1 _ _ b h2 s2 =>
    have he : (if a.length + b.length ≤ sizeLine then some (D.lst (a ++ b)) else none) = some r := he
    split at he
    · cases he
      rename_i hl
      exact op_cat pins s σ H _ _ v u Q I rx ry ⟨_, _, _, _, rfl, rfl, rm.fro _ _ h1, rm.fro _ _ h2, by rw [s1.length, s2.length]; exact hl, fun z hz => new_lst rm hz (s1.append s2) q⟩
    · cases he
  case tup.tup _ _ a h1 s1 _ _ b h2 s2 =>
    have he : (if a.length + b.length ≤ sizeLine then some (D.tup (a ++ b)) else none) = some r := he
    split at he
    · cases he
      rename_i hl
      refine op_catA pins s σ H _ _ v u Q I rx ry ⟨_, _, _, _, rfl, rfl, h1.sq rm, h2.sq rm, by rw [s1.length, s2.length]; exact hl, fun z => ?_, fun z1 z2 => ?_, fun z1 z2 w hw => new_tup rm hw (s1.append s2) q⟩
      · subst z; cases s1
        exact q _ _ _ _ (Step.refl ..) rm (.tup h2 s2)
      · subst z2; cases s2
        exact q _ _ _ _ (Step.refl ..) rm (.tup h1 (by rw [List.append_nil]; exact s1))
    · cases he
  case cell.lst n _ h1 _ _ b h2 s2 =>
    have he : (match M[n]? with
      | some (.lst a) => if a.length + b.length ≤ sizeLine then some (D.lst (a ++ b)) else none
      | _ => none) = some r := he
    split at he
    · rename_i a hm
      split at he
      · cases he
        rename_i hl
        obtain ⟨_, xs, e1, s1, _⟩ := rm.cell _ _ _ h1 hm (by intro z; cases z)
        exact op_cat pins s σ H _ _ v u Q I rx ry ⟨_, _, _, _, rfl, rfl, e1, rm.fro _ _ h2, by rw [s1.length, s2.length]; exact hl, fun z hz => new_lst rm hz (s1.append s2) q⟩
      · cases he
    · cases he
theorem op_subD : OpR X (binaryOp .Sub) (rB X.K fun M => eOp M .sub) := by
  intro pins s σ H x y v u Q I rx ry h
  obtain ⟨p, F, M, d, e, r, rm, r1, r2, he, q⟩ := h
  cases r1 <;> cases r2 <;> first | (cases he; done) | skip
  case int.int =>
    cases he
    exact op_sub pins s σ H _ _ v u Q I rx ry ⟨_, _, rfl, rfl, q _ _ _ _ (Step.refl ..) rm (.int _)⟩
  case bl.int =>
    cases he
    obtain ⟨t', rfl⟩ := ry
    have rx : v = .bool _ := rx
    subst rx
    exact PySem.IntBool.sub_bool_int ⟨.int _, _, I.tok _, ⟨_, rfl⟩, q _ _ _ _ (Step.refl ..) rm (.int _)⟩
theorem op_fdivD : OpR X (binaryOp .FloorDiv) (rB X.K fun M => eOp M .fdiv) := by
  intro pins s σ H x y v u Q I rx ry h
  obtain ⟨p, F, M, d, e, r, rm, r1, r2, he, q⟩ := h
  cases r1 <;> cases r2 <;> first | (cases he; done) | skip
  rename_i i j
  have he : (if 0 < j ∧ j.natAbs.log2 < 9000 then some (D.int (i / j)) else none) = some r := he
  split at he
  · cases he
    rename_i hc
    exact op_fdivW pins s σ H _ _ v u Q I rx ry ⟨_, _, rfl, rfl, hc, q _ _ _ _ (Step.refl ..) rm (.int _)⟩
  · cases he
theorem op_modD : OpR X (binaryOp .Mod) (rB X.K fun M => eOp M .mod) := by
  intro pins s σ H x y v u Q I rx ry h
  obtain ⟨p, F, M, d, e, r, rm, r1, r2, he, q⟩ := h
  cases r1 <;> cases r2 <;> first | (cases he; done) | skip
  rename_i i j
  have he : (if 0 < j then some (D.int (i % j)) else none) = some r := he
  split at he
  · cases he
    rename_i hc
    exact op_mod pins s σ H _ _ v u Q I rx ry ⟨_, _, rfl, rfl, hc, q _ _ _ _ (Step.refl ..) rm (.int _)⟩
  · cases he
theorem op_powD : OpR X (binaryOp .Pow) (rB X.K fun M => eOp M .pow) := by
  intro pins s σ H x y v u Q I rx ry h
  obtain ⟨p, F, M, d, e, r, rm, r1, r2, he, q⟩ := h
  cases r1 <;> cases r2 <;> first | (cases he; done) | skip
  rename_i i j
  have he : ePow i j = some r := he
  unfold ePow at he
  split at he
  · cases he
    rename_i hc
    exact op_pow pins s σ H _ _ v u Q I rx ry ⟨_, _, rfl, rfl, hc, q _ _ _ _ (Step.refl ..) rm (.int _)⟩
  · cases he
end
end Rf
end T_RfOp
section T_RfMul
set_option Elab.async false
set_option linter.all false
set_option maxRecDepth 100000
set_option maxHeartbeats 2000000
/-! Rf: * by data -/
namespace Rf
open PySem PySem.Spec PyProof.Rows L2
theorem tup_mul1 (l : Addr) (its : Array Value) (n : Nat) (dd : Option Addr) (sl : Array (Option Value)) (u : Tok) :
    Meets (Builtin.«tuple.__mul__» ⟨[.ref l, .int 1 u], []⟩) (fun _ R s => s.heap.get? l = some { cls := .type "tuple", dict := dd, data := .seq its n, slots := sl } ∧ R (.ok (.ret (Value.ref l))) s) :=
  .of_wp fun prog w A R s hh => by
    obtain ⟨hp, g, d, tk, os⟩ := s
    obtain ⟨e1, hh⟩ := hh
    have f1 := AutoSeq1.idx_int
    have q1 : (decide ((1 : Int) < -(2 ^ 63)) || decide ((1 : Int) ≥ 2 ^ 63)) = false := by decide
    have q2 : (its.isEmpty || (1 : Int) == 1) = true := by simp
    wp_walk using wpAny_loadPart' e1
    repeat (first
      | (refine wpAny_ite_false (decide_eq_false (by rw [q1]; exact Bool.false_ne_true)) ?_; wp_walk using wpAny_loadPart' e1)
      | (refine wpAny_ite_true (decide_eq_true q2) ?_; wp_walk using wpAny_loadPart' e1))
    exact ⟨_, rfl, hh⟩
theorem tup_mul0 (l : Addr) (its : Array Value) (n : Nat) (dd : Option Addr) (sl : Array (Option Value)) (u : Tok) (hne : its.isEmpty = false) :
    Meets (Builtin.«tuple.__mul__» ⟨[.ref l, .int 0 u], []⟩) (fun _ R s => s.heap.get? l = some { cls := .type "tuple", dict := dd, data := .seq its n, slots := sl } ∧
      R (.ok (.ret (Value.ref s.heap.objs.size))) { s with heap := s.heap.push { cls := Value.type "tuple", data := Data.seq #[] }, toks := s.toks }) :=
  .of_wp fun prog w A R s hh => by
    obtain ⟨hp, g, d, tk, os⟩ := s
    obtain ⟨e1, hh⟩ := hh
    have f1 := AutoSeq1.idx_int
    have q1 : (decide ((0 : Int) < -(2 ^ 63)) || decide ((0 : Int) ≥ 2 ^ 63)) = false := by decide
    have q2 : (its.isEmpty || (0 : Int) == 1) = false := by rw [hne]; rfl
    have q3 : (decide ((0 : Int) ≤ 0) || its.isEmpty) = true := by simp
    wp_walk using wpAny_loadPart' e1
    repeat (first
      | (refine wpAny_ite_false (decide_eq_false (by rw [q1]; exact Bool.false_ne_true)) ?_; wp_walk using wpAny_loadPart' e1)
      | (refine wpAny_ite_false (decide_eq_false (by rw [q2]; exact Bool.false_ne_true)) ?_; wp_walk using wpAny_loadPart' e1)
      | (refine wpAny_ite_true (decide_eq_true q3) ?_; wp_walk using wpAny_loadPart' e1))
    exact ⟨_, rfl, hh⟩
section
variable {X : Cx}
def rRep01 (K : PySem.W.Frag) : R2 := fun x y H Q => ∃ l k xs, x = .ref l ∧ y = .int k ∧ SqT K H l xs ∧ xs ≠ [] ∧ ((k = 1 ∧ Q (.ref l) H) ∨ (k = 0 ∧ ∀ p, H p = none → Q (.ref p) (upd H p (.tup []))))
theorem op_rep01 : OpR X (binaryOp .Mult) (rRep01 X.K) := by
  intro pins s σ H x y v u Q I rx ry h
  obtain ⟨l, k, xs, rfl, rfl, hT, hne, q⟩ := h
  cases rx
  obtain ⟨t, rfl⟩ := ry
  obtain ⟨its, rv, ⟨⟨cls, dd, data, sl⟩, ho, hc, n, hd⟩, hs⟩ := I.tuple hT
  simp only at hc hd
  subst hc hd
  have hie : its.toArray.isEmpty = false := by
    cases rv with
    | nil => exact absurd rfl hne
    | cons _ _ => rfl
  rcases q with ⟨rfl, q⟩ | ⟨rfl, q⟩
  · refine wpAny_binaryOp_repeat_ref (T := "tuple") (U := "int") (by decide) ⟨_, ho, rfl⟩ (fun s' => typeIs_int s' _ t) noFill_tuple_mul F.fills_int_mul F.slot_int_rmul repeat_tuple F.slot_int_index.lookup
      (call_meets F.slot_int_rmul (typeIs_int s _ t) F.entry_int_rmul (F.args_int_rmul_2 _ _) (int_rmul_tuple _ t l its.toArray n dd sl)
        ⟨ho, rfl, ⟨_, ho, rfl⟩, call_meets F.slot_tuple_mul ⟨_, ho, rfl⟩ F.entry_tuple_mul (F.args_tuple_mul_2 _ _) (tup_mul1 l its.toArray n dd sl t) ⟨ho, ?_⟩⟩)
    exact ⟨.ref l, H, I, rfl, q⟩
  · refine wpAny_binaryOp_repeat_ref (T := "tuple") (U := "int") (by decide) ⟨_, ho, rfl⟩ (fun s' => typeIs_int s' _ t) noFill_tuple_mul F.fills_int_mul F.slot_int_rmul repeat_tuple F.slot_int_index.lookup
      (call_meets F.slot_int_rmul (typeIs_int s _ t) F.entry_int_rmul (F.args_int_rmul_2 _ _) (int_rmul_tuple _ t l its.toArray n dd sl)
        ⟨ho, rfl, ⟨_, ho, rfl⟩, call_meets F.slot_tuple_mul ⟨_, ho, rfl⟩ F.entry_tuple_mul (F.args_tuple_mul_2 _ _) (tup_mul0 l its.toArray n dd sl t hie) ⟨ho, ?_⟩⟩)
    refine ⟨.ref s.heap.objs.size, _, I.laid (t' := s.toks) (o := .tup []) (fun b ob z => Heap.get?_push_of_some _ z) (Nat.le_refl _) ?_, rfl, q _ (I.hok.fresh (Nat.le_refl _))⟩
    exact ⟨Nat.zero_le _, [], .nil, IsTup.new _ _⟩
/-- text times a small number -/
theorem op_repS : OpR X (binaryOp .Mult) (fun x y H Q => ∃ a k, x = .str a ∧ y = .int k ∧ 0 ≤ k ∧ k ≤ 1000 ∧ a.length ≤ 1000 ∧ Q (.str ⟨(Rf.rep k.toNat a.cps.toList).toArray⟩) H) := by
  intro pins s σ H x y v u Q I rx ry h
  obtain ⟨a, k, rfl, rfl, h0, h1, h2, q⟩ := h
  obtain ⟨t, rfl⟩ := rx
  obtain ⟨t', rfl⟩ := ry
  have e : ∀ m : Nat, (List.replicate m a.cps).foldl (· ++ ·) #[] = (Rf.rep m a.cps.toList).toArray := fun m => by
    have g : ∀ (m : Nat) (acc : List Nat), (List.replicate m a.cps).foldl (· ++ ·) acc.toArray = (acc ++ Rf.rep m a.cps.toList).toArray := by
      intro m
      induction m with
      | zero => intro acc; simp [Rf.rep]
      | succ m ih =>
        intro acc
        rw [List.replicate_succ, List.foldl_cons]
        have : acc.toArray ++ a.cps = (acc ++ a.cps.toList).toArray := by simp
        rw [this, ih]
        simp [Rf.rep, List.replicate_succ]
    have := g m []
    simpa using this
  have hk : a.length * k.toNat ≤ 1000 * 1000 := Nat.mul_le_mul h2 (by omega)
  refine PySem.P.mul_str (by rw [decide_eq_false (by omega), decide_eq_false (by omega)]; rfl) (fun z1 _ => ?_) (fun z1 _ => ?_) ?_
  · have : (1000 : Int) ≤ (2 ^ 63 - 1) / k := by
      apply Int.le_ediv_of_mul_le (by omega)
      omega
    have h3 : (a.length : Int) ≤ 1000 := by omega
    omega
  · have h5 : a.length * k.toNat ≤ 16777216 := by omega
    first
      | exact decide_eq_false (by rw [sizeLine_eq]; omega)
      | (unfold Builtin.Str.tooLong; rw [sizeLine_eq]; exact decide_eq_false (by omega))
  · by_cases c1 : k < 1
    · have ek : k = 0 := by omega
      subst ek
      rw [if_pos (by decide)]
      exact ⟨by decide, ⟨.str _, H, I.tok _, ⟨_, rfl⟩, q⟩⟩
    · rw [if_neg c1]
      by_cases c2 : (k == 1 || a.length == 0) = true
      · rw [if_pos c2]
        have : (⟨(Rf.rep k.toNat a.cps.toList).toArray⟩ : Str) = a := by
          rw [Bool.or_eq_true] at c2
          rcases c2 with c2 | c2
          · have : k = 1 := by simpa using c2
            subst this
            simp [Rf.rep]
          · have hz : a.cps = #[] := by
              have z : a.cps.size = 0 := by
                have : a.length = 0 := by simpa using c2
                exact this
              exact Array.eq_empty_of_size_eq_zero z
            cases a with
            | mk cps =>
              simp only at hz
              subst hz
              simp [Rf.rep]
        rw [this] at q
        exact ⟨.str a, H, I, ⟨_, rfl⟩, q⟩
      · rw [if_neg c2, e]
        refine ⟨?_, ⟨.str _, H, I.tok _, ⟨_, rfl⟩, q⟩⟩
        have h5 : a.cps.size * k.toNat ≤ 1000 * 1000 := hk
        show ((Rf.rep k.toNat a.cps.toList).toArray).size ≤ sizeLine
        rw [sizeLine_eq, List.size_toArray]
        unfold Rf.rep
        rw [PyProof.Rows.lm_len_rep_flat, Array.length_toList, Nat.mul_comm]
        omega
        /-
          | (show _ ≤ sizeLine; rw [sizeLine_eq]; show ((Rf.rep k.toNat a.cps.toList).toArray).size ≤ _; rw [List.size_toArray]; unfold Rf.rep; rw [PyProof.Rows.lm_len_rep_flat, Array.length_toList, Nat.mul_comm]; have : a.cps.size = a.length := rfl; omega)
          | skip -/
theorem op_mulD : OpR X (binaryOp .Mult) (rB X.K fun M => eOp M .mul) := by
  intro pins s σ H x y v u Q I rx ry h
  obtain ⟨p, F, M, d, e, r, rm, r1, r2, he, q⟩ := h
  cases r1 <;> cases r2 <;> first | (cases he; done) | skip
  case int.int i j =>
    have he : (if (bitsOk i && bitsOk j) = true then some (D.int (i * j)) else none) = some r := he
    split at he
    · cases he
      rename_i hc
      rw [Bool.and_eq_true] at hc
      have a1 := log2_le hc.1
      have a2 := log2_le hc.2
      exact op_mulW pins s σ H _ _ v u Q I rx ry ⟨_, _, rfl, rfl, (by show _ + _ < 1000000; omega), q _ _ _ _ (Step.refl ..) rm (.int _)⟩
    · cases he
  case tup.int _ _ a h1 s1 k =>
    have he : (if a ≠ [] ∧ 0 ≤ k ∧ k ≤ 1000 ∧ a.length ≤ 1000 then some (D.tup (Rf.rep k.toNat a)) else none) = some r := he
    split at he
    · cases he
      rename_i hc
      obtain ⟨c1, c2, c3, c4⟩ := hc
      have hne : ∀ {vs : List V}, Rels X.K p F vs a → vs ≠ [] := fun r z => by subst z; cases r; exact c1 rfl
      by_cases c5 : 2 ≤ k
      · exact op_repT pins s σ H _ _ v u Q I rx ry ⟨_, _, _, rfl, rfl, h1.sq rm, hne s1, c5, c3, by rw [s1.length]; exact c4, fun z hz => new_tup rm hz (s1.rep k.toNat) q⟩
      · refine op_rep01 pins s σ H _ _ v u Q I rx ry ⟨_, _, _, rfl, rfl, h1.sq rm, hne s1, ?_⟩
        by_cases c6 : k = 1
        · subst c6
          refine .inl ⟨rfl, q _ _ _ _ (Step.refl ..) rm ?_⟩
          have : Rf.rep (1 : Int).toNat a = a := by simp [Rf.rep]
          rw [this]
          exact .tup h1 s1
        · have c7 : k = 0 := by omega
          subst c7
          refine .inr ⟨rfl, fun z hz => new_tup (xs := []) (ds := []) rm hz .nil ?_⟩
          intro p' F' H' v' a1 a2 a3
          exact q p' F' H' v' a1 a2 (by simpa [Rf.rep] using a3)
    · cases he
  case lst.int _ _ a h1 s1 k =>
    have he : (if 0 ≤ k ∧ k < 2 ^ 63 ∧ a.length * k.toNat ≤ sizeLine then some (D.lst (Rf.rep k.toNat a)) else none) = some r := he
    split at he
    · cases he
      rename_i hc
      obtain ⟨c1, c2, c3⟩ := hc
      exact op_rep pins s σ H _ _ v u Q I rx ry ⟨_, _, _, rfl, rfl, rm.fro _ _ h1, by omega, c2, by rw [s1.length]; exact c3, fun z hz => new_lst rm hz (s1.rep k.toNat) q⟩
    · cases he
  case str.int a k =>
    have he : (if 0 ≤ k ∧ k ≤ 1000 ∧ a.length ≤ 1000 then some (D.str ⟨(Rf.rep k.toNat a.cps.toList).toArray⟩) else none) = some r := he
    split at he
    · cases he
      rename_i hc
      exact op_repS pins s σ H _ _ v u Q I rx ry ⟨_, _, rfl, rfl, hc.1, hc.2.1, hc.2.2, q _ _ _ _ (Step.refl ..) rm (.str _)⟩
    · cases he
/-- the operator of the text -/
def pyOp : Op → Operator
  | .add => .Add | .sub => .Sub | .mul => .Mult | .fdiv => .FloorDiv | .mod => .Mod | .pow => .Pow
theorem op_D (o : Op) : OpR X (binaryOp (pyOp o)) (rB X.K fun M => eOp M o) := by
  cases o
  · exact op_addD
  · exact op_subD
  · exact op_mulD
  · exact op_fdivD
  · exact op_modD
  · exact op_powD
end
end Rf
end T_RfMul
section T_RfCmp
set_option Elab.async false
set_option linter.all false
set_option maxRecDepth 100000
set_option maxHeartbeats 2000000
/-! Rf: comparisons, places, slices by data -/
namespace L2
open PySem PySem.Spec PyProof.Rows
section
variable {X : Cx}
def rInDT (K : PySem.W.Frag) : R2 := fun x y H Q => ∃ d ds, Dp K H x d ∧ Dp K H y (.tuple ds) ∧ SeqAt.shaped d = true ∧ SeqAt.shaped (.list ds) = true ∧ Q (.bl (ds.any fun z => PyData.eqv z d)) H
def rNotInDT (K : PySem.W.Frag) : R2 := fun x y H Q => ∃ d ds, Dp K H x d ∧ Dp K H y (.tuple ds) ∧ SeqAt.shaped d = true ∧ SeqAt.shaped (.list ds) = true ∧ Q (.bl (!ds.any fun z => PyData.eqv z d)) H
theorem op_inDT (hu : X.A.units + 65 < cLine) : OpR X (compareOp .In) (rInDT X.K) := by
  intro pins s σ H x y v u Q I rx ry h
  obtain ⟨d, ds, hd, he, sd, se, q⟩ := h
  obtain ⟨as, r1⟩ := Dp.reads I d x v hd rx
  obtain ⟨bs, r2⟩ := Dp.reads I (.tuple ds) y u he ry
  exact SeqAt.in_tuple_reads r2 r1 (SeqAt.canLay_of_shaped se) (SeqAt.canLay_of_shaped sd) (room_in_shaped sd hu) ⟨.bl _, H, I, rfl, q⟩
theorem op_notInDT (hu : X.A.units + 65 < cLine) : OpR X (compareOp .NotIn) (rNotInDT X.K) := by
  intro pins s σ H x y v u Q I rx ry h
  obtain ⟨d, ds, hd, he, sd, se, q⟩ := h
  obtain ⟨as, r1⟩ := Dp.reads I d x v hd rx
  obtain ⟨bs, r2⟩ := Dp.reads I (.tuple ds) y u he ry
  exact SeqAt.notIn_tuple_reads r2 r1 (SeqAt.canLay_of_shaped se) (SeqAt.canLay_of_shaped sd) (room_in_shaped sd hu) ⟨.bl _, H, I, rfl, q⟩
end
end L2
namespace Rf
open PySem PySem.Spec PyProof.Rows L2
section
variable {K : PySem.W.Frag} {p : Ph} {F H : Hp} {M : Mem}
theorem toPys_cons {d : D} {ds : List D} {x : List PyData} (e : toPys (d :: ds) = some x) : ∃ a as, toPy d = some a ∧ toPys ds = some as ∧ x = a :: as := by
  unfold toPys at e
  cases h1 : toPy d with
  | none => rw [h1] at e; cases e
  | some a =>
    cases h2 : toPys ds with
    | none => rw [h1, h2] at e; cases e
    | some as => rw [h1, h2] at e; cases e; exact ⟨a, as, rfl, rfl, rfl⟩
theorem toPy_lst {ds : List D} {x : PyData} (e : toPy (.lst ds) = some x) : ∃ xs, toPys ds = some xs ∧ x = .list xs := by
  have e : (toPys ds).map PyData.list = some x := by rw [← e]; simp only [toPy]
  cases z : toPys ds with
  | none => rw [z] at e; cases e
  | some xs => rw [z] at e; cases e; exact ⟨xs, rfl, rfl⟩
theorem toPy_tup {ds : List D} {x : PyData} (e : toPy (.tup ds) = some x) : ∃ xs, toPys ds = some xs ∧ x = .tuple xs := by
  have e : (toPys ds).map PyData.tuple = some x := by rw [← e]; simp only [toPy]
  cases z : toPys ds with
  | none => rw [z] at e; cases e
  | some xs => rw [z] at e; cases e; exact ⟨xs, rfl, rfl⟩
theorem some_eq {α : Type} {a b : α} (h : some a = some b) : a = b := Option.some.inj h
mutual
theorem Rel.dp (rm : RM K p F M H) : ∀ (d : D) (v : V) (x : PyData), Rel K p F v d → toPy d = some x → Dp K H v x
  | .non, v, x, r, e => by
    have e : PyData.none = x := some_eq (by rw [← e]; simp only [toPy])
    subst e; cases r; exact .non
  | .bl b, v, x, r, e => by
    have e : PyData.bool b = x := some_eq (by rw [← e]; simp only [toPy])
    subst e; cases r; exact .bl b
  | .int b, v, x, r, e => by
    have e : PyData.int b = x := some_eq (by rw [← e]; simp only [toPy])
    subst e; cases r; exact .int b
  | .str b, v, x, r, e => by
    have e : PyData.str b = x := some_eq (by rw [← e]; simp only [toPy])
    subst e; cases r; exact .str b
  | .lst ds, v, x, r, e => by
    obtain ⟨xs, e1, rfl⟩ := toPy_lst e
    cases r with
    | lst h r => exact .lst (.inl (.inl (rm.fro _ _ h))) (Rels.dp rm ds _ xs r e1)
  | .tup ds, v, x, r, e => by
    obtain ⟨xs, e1, rfl⟩ := toPy_tup e
    cases r with
    | tup h r => exact .tup (h.sq rm) (Rels.dp rm ds _ xs r e1)
  | .dic _ _, v, x, r, e => by
    have e : (none : Option PyData) = some x := by rw [← e]; simp only [toPy]
    cases e
  | .cell _, v, x, r, e => by
    have e : (none : Option PyData) = some x := by rw [← e]; simp only [toPy]
    cases e
  | .scr _, v, x, r, e => by
    have e : (none : Option PyData) = some x := by rw [← e]; simp only [toPy]
    cases e
  | .exn _ _, v, x, r, e => by
    have e : (none : Option PyData) = some x := by rw [← e]; simp only [toPy]
    cases e
theorem Rels.dp (rm : RM K p F M H) : ∀ (d : List D) (v : List V) (x : List PyData), Rels K p F v d → toPys d = some x → DpAll K H v x
  | [], v, x, r, e => by
    have e : ([] : List PyData) = x := some_eq (by rw [← e]; simp only [toPys])
    subst e; cases r; exact .nil
  | d :: ds, v, x, r, e => by
    obtain ⟨a, as, e1, e2, rfl⟩ := toPys_cons e
    cases r with
    | cons h r => exact .cons (Rel.dp rm d _ a h e1) (Rels.dp rm ds _ as r e2)
end
theorem Rel.flat {v : V} {d : D} (r : Rel K p F v d) (h : flatD d = true) : flatV v = true := by
  cases r
  case non => rfl
  case bl => rfl
  case int => rfl
  case str => rfl
  all_goals exact absurd h Bool.false_ne_true
theorem Rel.eqf {v u : V} {d e : D} (r1 : Rel K p F v d) (r2 : Rel K p F u e) (h1 : flatD d = true) (h2 : flatD e = true) : eqV v u = eqF d e := by
  cases r1
  case non => cases r2 <;> first | rfl | exact absurd h2 Bool.false_ne_true
  case bl => cases r2 <;> first | rfl | exact absurd h2 Bool.false_ne_true
  case int => cases r2 <;> first | rfl | exact absurd h2 Bool.false_ne_true
  case str => cases r2 <;> first | rfl | exact absurd h2 Bool.false_ne_true
  all_goals exact absurd h1 Bool.false_ne_true
theorem all_cons2 {α : Type} {f : α → Bool} {a : α} {l : List α} (h : (a :: l).all f = true) : f a = true ∧ l.all f = true := by
  rw [List.all_cons, Bool.and_eq_true] at h
  exact h
theorem Rels.flat : ∀ (d : List D) (v : List V), Rels K p F v d → d.all flatD = true → v.all flatV = true
  | [], v, r, e => by cases r; rfl
  | d :: ds, v, r, e => by
    cases r with
    | cons h r => rw [List.all_cons, h.flat (all_cons2 e).1, Rels.flat ds _ r (all_cons2 e).2]; rfl
theorem Rels.inf {x : V} {a : D} (hx : Rel K p F x a) (fx : flatD a = true) : ∀ (d : List D) (v : List V), Rels K p F v d → d.all flatD = true → inV x v = d.any fun y => eqF y a
  | [], v, r, e => by cases r; rfl
  | d :: ds, v, r, e => by
    cases r with
    | cons h r =>
      have ih := Rels.inf hx fx ds _ r (all_cons2 e).2
      unfold inV at ih ⊢
      rw [List.any_cons, List.any_cons, h.eqf hx (all_cons2 e).1 fx, ih]
end
section
variable {X : Cx}
def pyCo : Co → CmpOp
  | .eq => .Eq | .ne => .NotEq | .lt => .Lt | .le => .LtE | .gt => .Gt | .ge => .GtE | .inn => .In | .nin => .NotIn
def gCo (o : Co) : Mem → D → D → Option D := fun _ d e => (eCo o d e).map .bl
theorem map_bl {o : Option Bool} {r : D} (h : o.map D.bl = some r) : ∃ b, o = some b ∧ r = .bl b := by
  cases o with
  | none => cases h
  | some b => cases h; exact ⟨b, rfl, rfl⟩
theorem eEq_some {a b : D} {k : Bool} (h : eEq a b = some k) : ∃ x y, toPy a = some x ∧ toPy b = some y ∧ SeqAt.shaped x = true ∧ SeqAt.shaped y = true ∧ k = PyData.eqv x y := by
  unfold eEq at h
  split at h
  · rename_i x y e1 e2
    split at h
    · rename_i hs
      rw [Bool.and_eq_true] at hs
      cases h
      exact ⟨x, y, e1, e2, hs.1, hs.2, rfl⟩
    · cases h
  · cases h
theorem co_D (o : Co) (hu : X.A.units + 65 < cLine) : OpR X (compareOp (pyCo o)) (rB X.K (gCo o)) := by
  intro pins s σ H x y v u Q I rx ry h
  obtain ⟨p, F, M, d, e, r, rm, r1, r2, he, q⟩ := h
  have he2 := map_bl he
  clear he
  obtain ⟨k, he, rfl⟩ := he2
  have fin : Q (.bl k) H := q _ _ _ _ (Step.refl ..) rm (.bl k)
  cases o
  case eq =>
    obtain ⟨a, b, e1, e2, s1, s2, rfl⟩ := eEq_some he
    exact op_eqD (by omega) pins s σ H _ _ v u Q I rx ry ⟨a, b, Rel.dp rm _ _ _ r1 e1, Rel.dp rm _ _ _ r2 e2, s1, s2, fin⟩
  case ne =>
    have he : (eEq d e).map not = some k := he
    cases z : eEq d e with
    | none => rw [z] at he; cases he
    | some j =>
      rw [z] at he; cases he
      obtain ⟨a, b, e1, e2, s1, s2, rfl⟩ := eEq_some z
      exact op_neD (by omega) pins s σ H _ _ v u Q I rx ry ⟨a, b, Rel.dp rm _ _ _ r1 e1, Rel.dp rm _ _ _ r2 e2, s1, s2, fin⟩
  case lt =>
    cases r1 <;> cases r2 <;> first | (cases he; done) | skip
    cases he
    exact op_lt pins s σ H _ _ v u Q I rx ry ⟨_, _, rfl, rfl, fin⟩
  case le =>
    cases r1 <;> cases r2 <;> first | (cases he; done) | skip
    cases he
    exact op_le pins s σ H _ _ v u Q I rx ry ⟨_, _, rfl, rfl, fin⟩
  case gt =>
    cases r1 <;> cases r2 <;> first | (cases he; done) | skip
    cases he
    exact op_gt pins s σ H _ _ v u Q I rx ry ⟨_, _, rfl, rfl, fin⟩
  case ge =>
    cases r1 <;> cases r2 <;> first | (cases he; done) | skip
    cases he
    exact op_ge pins s σ H _ _ v u Q I rx ry ⟨_, _, rfl, rfl, fin⟩
  case inn =>
    cases r2 with
    | @lst _ _ ys h2 s2 =>
      have he : (match toPy d, toPys ys with
        | some x, some ys => if SeqAt.shaped x && SeqAt.shaped (.list ys) then some (ys.any fun z => PyData.eqv z x) else none
        | _, _ => none) = some k := he
      split at he
      · rename_i a b e1 e2
        split at he
        · rename_i hs
          rw [Bool.and_eq_true] at hs
          cases he
          exact op_inD hu pins s σ H _ _ v u Q I rx ry ⟨a, b, Rel.dp rm _ _ _ r1 e1, .lst (.inl (.inl (rm.fro _ _ h2))) (Rels.dp rm _ _ _ s2 e2), hs.1, hs.2, fin⟩
        · cases he
      · cases he
    | @tup _ _ ys h2 s2 =>
      have he : (if (flatD d && ys.all flatD) = true then some (ys.any fun y => eqF y d) else match toPy d, toPys ys with
        | some x, some ys => if SeqAt.shaped x && SeqAt.shaped (.list ys) then some (ys.any fun z => PyData.eqv z x) else none
        | _, _ => none) = some k := he
      split at he
      · rename_i hs
        rw [Bool.and_eq_true] at hs
        cases he
        refine op_in_seq pins s σ H _ _ v u Q I rx ry ⟨_, _, rfl, .inr (h2.sq rm), r1.flat hs.1, Rels.flat _ _ s2 hs.2, ?_⟩
        rw [Rels.inf r1 hs.1 _ _ s2 hs.2]
        exact fin
      · split at he
        · rename_i a b e1 e2
          split at he
          · rename_i hs
            rw [Bool.and_eq_true] at hs
            cases he
            exact op_inDT hu pins s σ H _ _ v u Q I rx ry ⟨a, b, Rel.dp rm _ _ _ r1 e1, .tup (h2.sq rm) (Rels.dp rm _ _ _ s2 e2), hs.1, hs.2, fin⟩
          · cases he
        · cases he
    | _ => cases he
  case nin =>
    have he : (eIn d e).map not = some k := he
    cases z : eIn d e with
    | none => rw [z] at he; cases he
    | some j =>
      rw [z] at he; cases he
      cases r2 with
      | @lst _ _ ys h2 s2 =>
        have z : (match toPy d, toPys ys with
          | some x, some ys => if SeqAt.shaped x && SeqAt.shaped (.list ys) then some (ys.any fun z => PyData.eqv z x) else none
          | _, _ => none) = some j := z
        split at z
        · rename_i a b e1 e2
          split at z
          · rename_i hs
            rw [Bool.and_eq_true] at hs
            cases z
            exact op_notInD hu pins s σ H _ _ v u Q I rx ry ⟨a, b, Rel.dp rm _ _ _ r1 e1, .lst (.inl (.inl (rm.fro _ _ h2))) (Rels.dp rm _ _ _ s2 e2), hs.1, hs.2, fin⟩
          · cases z
        · cases z
      | @tup _ _ ys h2 s2 =>
        have z : (if (flatD d && ys.all flatD) = true then some (ys.any fun y => eqF y d) else match toPy d, toPys ys with
          | some x, some ys => if SeqAt.shaped x && SeqAt.shaped (.list ys) then some (ys.any fun z => PyData.eqv z x) else none
          | _, _ => none) = some j := z
        split at z
        · rename_i hs
          rw [Bool.and_eq_true] at hs
          cases z
          refine op_notIn_seq pins s σ H _ _ v u Q I rx ry ⟨_, _, rfl, .inr (h2.sq rm), r1.flat hs.1, Rels.flat _ _ s2 hs.2, ?_⟩
          rw [Rels.inf r1 hs.1 _ _ s2 hs.2]
          exact fin
        · split at z
          · rename_i a b e1 e2
            split at z
            · rename_i hs
              rw [Bool.and_eq_true] at hs
              cases z
              exact op_notInDT hu pins s σ H _ _ v u Q I rx ry ⟨a, b, Rel.dp rm _ _ _ r1 e1, .tup (h2.sq rm) (Rels.dp rm _ _ _ s2 e2), hs.1, hs.2, fin⟩
            · cases z
          · cases z
      | _ => cases z

/-! ### places -/
theorem Rels.at {p : Ph} {F : Hp} {vs : List V} {ds : List D} {i : Int} {d : D} (r : Rels X.K p F vs ds) (h : atI ds i = some d) : ∃ v, atI vs i = some v ∧ Rel X.K p F v d := by
  unfold atI at h ⊢
  rw [r.length]
  cases e : ixN ds.length i with
  | none => rw [e] at h; cases h
  | some j =>
    rw [e] at h
    obtain ⟨v, h1, h2⟩ := r.get (show ds[j]? = some d from h)
    exact ⟨v, h1, h2⟩
theorem ints_at {ns : List Int} {i : Int} {d : D} (h : (atI ns i).map D.int = some d) : ∃ n, d = .int n ∧ atI (ns.map V.int) i = some (.int n) := by
  cases e : atI ns i with
  | none => rw [e] at h; cases h
  | some n =>
    rw [e] at h; cases h
    refine ⟨n, rfl, ?_⟩
    unfold atI at e ⊢
    rw [List.length_map]
    cases z : ixN ns.length i with
    | none => rw [z] at e; cases e
    | some j =>
      rw [z] at e
      have e : ns[j]? = some n := e
      show (ns.map V.int)[j]? = _
      rw [List.getElem?_map, e]
      rfl
theorem ix_D : IxR X (rB X.K eIdx) := by
  intro value slice pins s σ H x y v u Q I rx ry h hs
  obtain ⟨p, F, M, d, e, r, rm, r1, r2, he, q⟩ := h
  cases r1 <;> cases r2 <;> first | (cases he; done) | skip
  case lst.int h1 s1 i =>
    obtain ⟨w, e1, e2⟩ := s1.at he
    exact ix_list value slice pins s σ H _ _ v u Q I rx ry ⟨_, _, _, w, rfl, rfl, .inl (.inl (rm.fro _ _ h1)), e1, q _ _ _ _ (Step.refl ..) rm e2⟩ hs
  case tup.int h1 s1 i =>
    obtain ⟨w, e1, e2⟩ := s1.at he
    exact ix_tup value slice pins s σ H _ _ v u Q I rx ry ⟨_, _, _, w, rfl, rfl, h1.sq rm, e1, q _ _ _ _ (Step.refl ..) rm e2⟩ hs
  case cell.int n _ h1 i =>
    have he : (match M[n]? with
      | some (.lst xs) => atI xs i
      | _ => none) = some r := he
    split at he
    · rename_i xs hm
      obtain ⟨_, vs, e1, s1, _⟩ := rm.cell _ _ _ h1 hm (by intro z; cases z)
      obtain ⟨w, e2, e3⟩ := s1.at he
      exact ix_list value slice pins s σ H _ _ v u Q I rx ry ⟨_, _, _, w, rfl, rfl, .inl (.inl e1), e2, q _ _ _ _ (Step.refl ..) rm e3⟩ hs
    · cases he
  case scr.int ns h1 i =>
    obtain ⟨n, rfl, e1⟩ := ints_at he
    exact ix_list value slice pins s σ H _ _ v u Q I rx ry ⟨_, _, _, _, rfl, rfl, rm.sqs h1, e1, q _ _ _ _ (Step.refl ..) rm (.int n)⟩ hs

/-! ### slices -/
theorem Rels.cutD {K : PySem.W.Frag} {p : Ph} {F : Hp} {vs : List V} {ds : List D} (r : Rels K p F vs ds) (lo hi : Option Int) : Rels K p F (cutV vs lo hi) (Rf.cutD ds lo hi) := by
  unfold cutV Rf.cutD
  rw [r.length]
  exact (r.drop _).take _
def rSl (K : PySem.W.Frag) : V → Option Int → Option Int → Hp → VK → Prop := fun x lo hi H Q => ∃ p F M d r, RM K p F M H ∧ Rel K p F x d ∧ eSlc d lo hi = some r ∧
  ∀ p' F' H' v, Step p F H p' F' H' → RM K p' F' M H' → Rel K p' F' v r → Q v H'
end
end Rf
end T_RfCmp
section T_RfBi
set_option Elab.async false
set_option linter.all false
set_option maxRecDepth 100000
set_option maxHeartbeats 2000000
/-! Rf: built-in functions by data -/
namespace Rf
open PySem PySem.Spec PyProof.Rows L2
/-! ### texts in order -/
theorem lt_irr : ∀ a : List Nat, ltCps a a = false
  | [] => rfl
  | x :: a => by
    show (decide (x < x) || (x == x && ltCps a a)) = false
    rw [lt_irr a]; simp
theorem lt_tri : ∀ a b : List Nat, ltCps a b = false → ltCps b a = false → a = b
  | [], [], _, _ => rfl
  | [], _ :: _, h, _ => by cases h
  | _ :: _, [], _, h => by cases h
  | x :: a, y :: b, h1, h2 => by
    have h1 : (decide (x < y) || (x == y && ltCps a b)) = false := h1
    have h2 : (decide (y < x) || (y == x && ltCps b a)) = false := h2
    rw [Bool.or_eq_false_iff] at h1 h2
    have e : x = y := by
      have := of_decide_eq_false h1.1
      have := of_decide_eq_false h2.1
      omega
    subst e
    have h3 : ltCps a b = false := by simpa using h1.2
    have h4 : ltCps b a = false := by simpa using h2.2
    rw [lt_tri a b h3 h4]
theorem lt_trans' : ∀ a b c : List Nat, ltCps a b = true → ltCps b c = true → ltCps a c = true
  | [], [], _, h, _ => by cases h
  | [], _ :: _, [], _, h => by cases h
  | [], _ :: _, _ :: _, _, _ => rfl
  | _ :: _, [], _, h, _ => by cases h
  | _ :: _, _ :: _, [], _, h => by cases h
  | x :: a, y :: b, z :: c, h1, h2 => by
    have h1 : (decide (x < y) || (x == y && ltCps a b)) = true := h1
    have h2 : (decide (y < z) || (y == z && ltCps b c)) = true := h2
    show (decide (x < z) || (x == z && ltCps a c)) = true
    rw [Bool.or_eq_true] at h1 h2 ⊢
    rcases h1 with h1 | h1
    · have h1 := of_decide_eq_true h1
      rcases h2 with h2 | h2
      · exact .inl (decide_eq_true (by have := of_decide_eq_true h2; omega))
      · rw [Bool.and_eq_true] at h2
        exact .inl (decide_eq_true (by have := eq_of_beq h2.1; omega))
    · rw [Bool.and_eq_true] at h1
      have e := eq_of_beq h1.1
      subst e
      rcases h2 with h2 | h2
      · exact .inl h2
      · rw [Bool.and_eq_true] at h2
        exact .inr (by rw [Bool.and_eq_true]; exact ⟨h2.1, lt_trans' a b c h1.2 h2.2⟩)
theorem strLe_trans (a b c : Str) (h1 : strLe a b = true) (h2 : strLe b c = true) : strLe a c = true := by
  unfold strLe at *
  rw [Bool.not_eq_true'] at *
  cases e : ltCps c.cps.toList a.cps.toList with
  | false => rfl
  | true =>
    exfalso
    cases e2 : ltCps b.cps.toList c.cps.toList with
    | true =>
      have := lt_trans' _ _ _ e2 e
      rw [h1] at this; cases this
    | false =>
      have e3 := lt_tri _ _ e2 h2
      rw [← e3, h1] at e
      cases e
theorem strLe_total (a b : Str) : (strLe a b || strLe b a) = true := by
  unfold strLe
  cases e : ltCps b.cps.toList a.cps.toList with
  | false => rfl
  | true =>
    cases e2 : ltCps a.cps.toList b.cps.toList with
    | false => rfl
    | true => have := lt_trans' _ _ _ e e2; rw [lt_irr] at this; cases this
theorem str_ext {a b : Str} (h : a.cps.toList = b.cps.toList) : a = b := by
  obtain ⟨a⟩ := a
  obtain ⟨b⟩ := b
  have : a = b := by simpa using congrArg List.toArray h
  rw [this]
theorem strLe_anti (a b : Str) (h1 : strLe a b = true) (h2 : strLe b a = true) : a = b := by
  unfold strLe at h1 h2
  rw [Bool.not_eq_true'] at h1 h2
  exact str_ext (lt_tri _ _ h2 h1)
theorem rising_all : ∀ (l : List Str) (x : Str), risingS x l = true → (∀ y ∈ l, strLe x y = true) ∧ l.Pairwise fun a b => strLe a b = true
  | [], x, _ => ⟨fun _ h => (by cases h), .nil⟩
  | y :: l, x, h => by
    have h : (!ltCps y.cps.toList x.cps.toList && risingS y l) = true := h
    rw [Bool.and_eq_true] at h
    obtain ⟨q1, q2⟩ := rising_all l y h.2
    have hx : strLe x y = true := h.1
    refine ⟨fun z hz => ?_, List.pairwise_cons.mpr ⟨q1, q2⟩⟩
    rcases List.mem_cons.mp hz with e | hz
    · rw [e]; exact hx
    · exact strLe_trans _ _ _ hx (q1 z hz)
theorem sortedS_pair : ∀ l : List Str, sortedS l = true → l.Pairwise fun a b => strLe a b = true
  | [], _ => .nil
  | x :: l, h => by
    obtain ⟨q1, q2⟩ := rising_all l x h
    exact List.pairwise_cons.mpr ⟨q1, q2⟩
theorem sortS_pair (l : List Str) : (sortS l).Pairwise fun a b => strLe a b = true := List.pairwise_mergeSort strLe_trans strLe_total l
theorem sortS_perm (l : List Str) : (sortS l).Perm l := List.mergeSort_perm l strLe
/-- sorted texts are one list -/
theorem sortS_of {ys xs : List Str} (hp : ys.Perm xs) (hs : sortedS ys = true) : ys = sortS xs :=
  List.Perm.eq_of_pairwise (fun a b _ _ h1 h2 => strLe_anti a b h1 h2) (sortedS_pair ys hs) (sortS_pair xs) (hp.trans (sortS_perm xs).symm)
section
variable {X : Cx} {K : PySem.W.Frag} {p : Ph} {F H : Hp} {M : Mem}
theorem bools_of : ∀ (ds : List D) (vs : List V) (bs : List Bool), Rels K p F vs ds → bools ds = some bs → vs = bs.map V.bl
  | [], vs, bs, r, e => by cases r; cases e; rfl
  | d :: ds, vs, bs, r, e => by
    cases r with
    | cons h r =>
      cases h with
      | bl b =>
        have e : (bools ds).map (b :: ·) = some bs := e
        cases z : bools ds with
        | none => rw [z] at e; cases e
        | some cs =>
          rw [z] at e; cases e
          rw [bools_of ds _ cs r z]; rfl
      | _ => cases e
theorem strs_of : ∀ (ds : List D) (vs : List V) (bs : List Str), Rels K p F vs ds → strsOf ds = some bs → vs = bs.map V.str
  | [], vs, bs, r, e => by cases r; cases e; rfl
  | d :: ds, vs, bs, r, e => by
    cases r with
    | cons h r =>
      cases h with
      | str b =>
        have e : (strsOf ds).map (b :: ·) = some bs := e
        cases z : strsOf ds with
        | none => rw [z] at e; cases e
        | some cs =>
          rw [z] at e; cases e
          rw [strs_of ds _ cs r z]; rfl
      | _ => cases e
theorem Rels.strs (l : List Str) : Rels K p F (l.map V.str) (l.map D.str) := by
  induction l with
  | nil => exact .nil
  | cons a l ih => exact .cons (.str a) ih
theorem map_some {α β : Type} {o : Option α} {f : α → β} {r : β} (h : o.map f = some r) : ∃ a, o = some a ∧ r = f a := by
  cases o with
  | none => cases h
  | some a => cases h; exact ⟨a, rfl, rfl⟩
/-- one argument -/
theorem one_of {d : D} {vs : List V} (r : Rels K p F vs [d]) : ∃ v, vs = [v] ∧ Rel K p F v d := by
  cases r with
  | cons h r => cases r; exact ⟨_, rfl, h⟩
theorem two_of {d e : D} {vs : List V} (r : Rels K p F vs [d, e]) : ∃ v w, vs = [v, w] ∧ Rel K p F v d ∧ Rel K p F w e := by
  cases r with
  | cons h r =>
    cases r with
    | cons h' r => cases r; exact ⟨_, _, rfl, h, h'⟩
theorem cr_absD : CallR X (.builtin "abs") (rA X.K fun _ => bAbs) := by
  intro pins s σ H xs us Q I r h
  obtain ⟨p, F, M, ds, d, rm, rs, he, q⟩ := h
  have he : bAbs ds = some d := he
  unfold bAbs at he
  split at he
  · cases he
    obtain ⟨v, rfl, h⟩ := one_of rs
    cases h
    exact call_abs pins s σ H _ us Q I r ⟨_, rfl, q _ _ _ _ (Step.refl ..) rm (.int _)⟩
  · cases he
theorem cr_allD (hc : X.calm = true) : CallR X (.builtin "all") (rA X.K fun _ => bAll) := by
  intro pins s σ H xs us Q I r h
  obtain ⟨p, F, M, ds, d, rm, rs, he, q⟩ := h
  have he : bAll ds = some d := he
  unfold bAll at he
  split at he
  · obtain ⟨v, rfl, h⟩ := one_of rs
    obtain ⟨bs, e1, rfl⟩ := map_some he
    cases h with
    | lst h s1 =>
      have e2 := bools_of _ _ _ s1 e1
      subst e2
      exact cr_all hc pins s σ H _ us Q I r ⟨_, bs, rfl, .inl (.inl (rm.fro _ _ h)), q _ _ _ _ (Step.refl ..) rm (.bl _)⟩
  · cases he
theorem cr_anyD (hc : X.calm = true) : CallR X (.builtin "any") (rA X.K fun _ => bAny) := by
  intro pins s σ H xs us Q I r h
  obtain ⟨p, F, M, ds, d, rm, rs, he, q⟩ := h
  have he : bAny ds = some d := he
  unfold bAny at he
  split at he
  · obtain ⟨v, rfl, h⟩ := one_of rs
    obtain ⟨bs, e1, rfl⟩ := map_some he
    cases h with
    | lst h s1 =>
      have e2 := bools_of _ _ _ s1 e1
      subst e2
      exact cr_any hc pins s σ H _ us Q I r ⟨_, bs, rfl, .inl (.inl (rm.fro _ _ h)), q _ _ _ _ (Step.refl ..) rm (.bl _)⟩
  · cases he
theorem cr_boolD : CallR X (.type "bool") (rA X.K fun _ => bBool) := by
  intro pins s σ H xs us Q I r h
  obtain ⟨p, F, M, ds, d, rm, rs, he, q⟩ := h
  have he : bBool ds = some d := he
  unfold bBool at he
  split at he
  · cases he
    obtain ⟨v, rfl, h⟩ := one_of rs
    cases h
    exact call_bool1 pins s σ H _ us Q I r (.inr ⟨_, rfl, q _ _ _ _ (Step.refl ..) rm (.bl _)⟩)
  · cases he
theorem cr_intD : CallR X (.type "int") (rA X.K fun _ => bInt) := by
  intro pins s σ H xs us Q I r h
  obtain ⟨p, F, M, ds, d, rm, rs, he, q⟩ := h
  have he : bInt ds = some d := he
  unfold bInt at he
  split at he
  · cases he
    obtain ⟨v, rfl, h⟩ := one_of rs
    cases h
    exact call_int1 pins s σ H _ us Q I r (.inl ⟨_, rfl, q _ _ _ _ (Step.refl ..) rm (.int _)⟩)
  · cases he
    obtain ⟨v, rfl, h⟩ := one_of rs
    cases h
    exact call_int1 pins s σ H _ us Q I r (.inr ⟨_, rfl, q _ _ _ _ (Step.refl ..) rm (.int _)⟩)
  · cases he
theorem cr_lenD : CallR X (.builtin "len") (rA X.K bLen) := by
  intro pins s σ H xs us Q I r h
  obtain ⟨p, F, M, ds, d, rm, rs, he, q⟩ := h
  have he : bLen M ds = some d := he
  unfold bLen at he
  split at he
  · cases he
    obtain ⟨v, rfl, h⟩ := one_of rs
    cases h with
    | lst h s1 => exact call_len pins s σ H _ us Q I r ⟨_, _, rfl, .inl ⟨_, .inl (.inl (rm.fro _ _ h)), rfl⟩, by rw [s1.length]; exact q _ _ _ _ (Step.refl ..) rm (.int _)⟩
  · cases he
    obtain ⟨v, rfl, h⟩ := one_of rs
    cases h with
    | tup h s1 => exact call_len pins s σ H _ us Q I r ⟨_, _, rfl, .inr ⟨_, h.sq rm, rfl⟩, by rw [s1.length]; exact q _ _ _ _ (Step.refl ..) rm (.int _)⟩
  · split at he
    · rename_i hl
      cases he
      obtain ⟨v, rfl, h⟩ := one_of rs
      cases h
      exact call_len pins s σ H _ us Q I r ⟨_, _, rfl, ⟨hl, rfl⟩, q _ _ _ _ (Step.refl ..) rm (.int _)⟩
    · cases he
  · split at he
    · rename_i hm
      cases he
      obtain ⟨v, rfl, h⟩ := one_of rs
      cases h with
      | cell h1 =>
        obtain ⟨_, vs, e1, s1, _⟩ := rm.cell _ _ _ h1 hm (by intro z; cases z)
        exact call_len pins s σ H _ us Q I r ⟨_, _, rfl, .inl ⟨_, .inl (.inl e1), rfl⟩, by rw [s1.length]; exact q _ _ _ _ (Step.refl ..) rm (.int _)⟩
    · cases he
  · cases he
    obtain ⟨v, rfl, h⟩ := one_of rs
    cases h with
    | scr h1 => exact call_len pins s σ H _ us Q I r ⟨_, _, rfl, .inl ⟨_, rm.sqs h1, rfl⟩, by rw [List.length_map]; exact q _ _ _ _ (Step.refl ..) rm (.int _)⟩
  · cases he
theorem cr_listD : CallR X (.type "list") (rA X.K fun _ => bList) := by
  intro pins s σ H xs us Q I r h
  obtain ⟨p, F, M, ds, d, rm, rs, he, q⟩ := h
  have he : bList ds = some d := he
  unfold bList at he
  split at he
  · cases he
    obtain ⟨v, rfl, h⟩ := one_of rs
    cases h with
    | lst h s1 => exact call_list_of pins s σ H _ us Q I r ⟨_, _, rfl, .inl (.inl (.inl (rm.fro _ _ h))), fun z hz => new_lst rm hz s1 q⟩
  · cases he
    obtain ⟨v, rfl, h⟩ := one_of rs
    cases h with
    | tup h s1 => exact call_list_of pins s σ H _ us Q I r ⟨_, _, rfl, .inr (h.sq rm), fun z hz => new_lst rm hz s1 q⟩
  · cases he
theorem cr_tupleD : CallR X (.type "tuple") (rA X.K fun _ => bTuple) := by
  intro pins s σ H xs us Q I r h
  obtain ⟨p, F, M, ds, d, rm, rs, he, q⟩ := h
  have he : bTuple ds = some d := he
  unfold bTuple at he
  split at he
  · cases he
    obtain ⟨v, rfl, h⟩ := one_of rs
    cases h with
    | lst h s1 => exact call_tuple_of pins s σ H _ us Q I r ⟨_, _, rfl, .inl ⟨.inl (.inl (rm.fro _ _ h)), fun z hz => new_tup rm hz s1 q⟩⟩
  · cases he
    obtain ⟨v, rfl, h⟩ := one_of rs
    cases h with
    | tup h s1 => exact call_tuple_of pins s σ H _ us Q I r ⟨_, _, rfl, .inr ⟨h.sq rm, q _ _ _ _ (Step.refl ..) rm (.tup h s1)⟩⟩
  · cases he
theorem cr_max2D (hc : X.calm = true) : CallR X (.builtin "max") (rA X.K fun _ => bMax2) := by
  intro pins s σ H xs us Q I r h
  obtain ⟨p, F, M, ds, d, rm, rs, he, q⟩ := h
  have he : bMax2 ds = some d := he
  unfold bMax2 at he
  split at he
  · cases he
    obtain ⟨v, w, rfl, h1, h2⟩ := two_of rs
    cases h1; cases h2
    exact call_max2 hc pins s σ H _ us Q I r ⟨_, _, rfl, q _ _ _ _ (Step.refl ..) rm (.int _)⟩
  · cases he
theorem cr_min2D (hc : X.calm = true) : CallR X (.builtin "min") (rA X.K fun _ => bMin2) := by
  intro pins s σ H xs us Q I r h
  obtain ⟨p, F, M, ds, d, rm, rs, he, q⟩ := h
  have he : bMin2 ds = some d := he
  unfold bMin2 at he
  split at he
  · cases he
    obtain ⟨v, w, rfl, h1, h2⟩ := two_of rs
    cases h1; cases h2
    exact call_min2 hc pins s σ H _ us Q I r ⟨_, _, rfl, q _ _ _ _ (Step.refl ..) rm (.int _)⟩
  · cases he
theorem cr_sortStrD : CallR X (.builtin "sorted") (rA X.K fun _ => bSortStr) := by
  intro pins s σ H xs us Q I r h
  obtain ⟨p, F, M, ds, d, rm, rs, he, q⟩ := h
  have he : bSortStr ds = some d := he
  unfold bSortStr at he
  split at he
  · split at he
    · rename_i l hl
      split at he
      · rename_i h64
        cases he
        obtain ⟨v, rfl, h⟩ := one_of rs
        cases h with
        | lst h s1 =>
          have e2 := strs_of _ _ _ s1 hl
          subst e2
          refine cr_sortedS pins s σ H _ us Q I r ⟨_, l, rfl, .inl (.inl (rm.fro _ _ h)), h64, fun ys z hp hs hz => ?_⟩
          rw [sortS_of hp hs]
          exact new_lst rm hz (Rels.strs _) q
      · cases he
    · cases he
  · cases he
theorem RM.tyS {p : Ph} {F : Hp} {M : Mem} (s : Str) : tyV K "str" (.str s) H := rfl
theorem mt_joinD : MtR X "str.join" (fun x xs => rA X.K (fun _ => bJoin) (x :: xs)) := by
  intro pins s σ H x xs v us Q I rx rs h
  obtain ⟨p, F, M, ds, d, rm, rl, he, q⟩ := h
  have he : bJoin ds = some d := he
  unfold bJoin at he
  split at he
  · split at he
    · rename_i l hl
      split at he
      · rename_i hz
        cases he
        obtain ⟨a, b, e, h1, h2⟩ := two_of rl
        cases e
        cases h1
        cases h2 with
        | lst h s1 =>
          have e2 := strs_of _ _ _ s1 hl
          subst e2
          exact mt_join pins s σ H _ _ v us Q I rx rs ⟨_, _, l, rfl, rfl, .inl (.inl (.inl (rm.fro _ _ h))), hz, q _ _ _ _ (Step.refl ..) rm (.str _)⟩
      · cases he
    · cases he
  · split at he
    · rename_i l hl
      split at he
      · rename_i hz
        cases he
        obtain ⟨a, b, e, h1, h2⟩ := two_of rl
        cases e
        cases h1
        cases h2 with
        | tup h s1 =>
          have e2 := strs_of _ _ _ s1 hl
          subst e2
          exact mt_join pins s σ H _ _ v us Q I rx rs ⟨_, _, l, rfl, rfl, .inr (h.sq rm), hz, q _ _ _ _ (Step.refl ..) rm (.str _)⟩
      · cases he
    · cases he
  · cases he
theorem mt_splitD : MtR X "str.split" (fun x xs => rA X.K (fun _ => bSplit) (x :: xs)) := by
  intro pins s σ H x xs v us Q I rx rs h
  obtain ⟨p, F, M, ds, d, rm, rl, he, q⟩ := h
  have he : bSplit ds = some d := he
  unfold bSplit at he
  split at he
  · split at he
    · rename_i hz
      cases he
      obtain ⟨a, b, e, h1, h2⟩ := two_of rl
      cases e
      cases h1
      cases h2
      exact mt_split pins s σ H _ _ v us Q I rx rs ⟨_, _, rfl, rfl, hz.1, hz.2, fun z hz => new_lst rm hz (Rels.strs _) q⟩
    · cases he
  · cases he
theorem mt_upperD : MtR X "str.upper" (fun x xs => rA X.K (fun _ => bUpper) (x :: xs)) := by
  intro pins s σ H x xs v us Q I rx rs h
  obtain ⟨p, F, M, ds, d, rm, rl, he, q⟩ := h
  have he : bUpper ds = some d := he
  unfold bUpper at he
  split at he
  · split at he
    · rename_i hz
      cases he
      obtain ⟨a, e, h1⟩ := one_of rl
      cases e
      cases h1
      exact mt_upper pins s σ H _ _ v us Q I rx rs ⟨_, rfl, rfl, hz, q _ _ _ _ (Step.refl ..) rm (.str _)⟩
    · cases he
  · cases he
end
end Rf
end T_RfBi
section T_RfExpr
set_option Elab.async false
set_option linter.all false
set_option maxRecDepth 100000
set_option maxHeartbeats 1000000
/-! Rf: expressions -/
namespace Rf
open PySem PySem.Spec PyProof.Rows L2
/-- the slots hold the core's values -/
structure RE (K : PySem.W.Frag) (p : Ph) (F : Hp) (env : Env) (σ : L2.St) : Prop where
  len : env.length = σ.length
  get : ∀ (i : Nat) (d : D), env[i]? = some (some d) → ∃ v, σ[i]? = some (some v) ∧ Rel K p F v d
theorem RE.mono {K : PySem.W.Frag} {p p' : Ph} {F F' : Hp} {env : Env} {σ : L2.St} (r : RE K p F env σ) (l : Le p F p' F') : RE K p' F' env σ :=
  ⟨r.len, fun i d e => let ⟨v, h1, h2⟩ := r.get i d e; ⟨v, h1, h2.mono l⟩⟩
theorem RE.set {K : PySem.W.Frag} {p : Ph} {F : Hp} {env : Env} {σ : L2.St} {i : Nat} {v : V} {d : D} (r : RE K p F env σ) (h : Rel K p F v d) : RE K p F (env.set i (some d)) (σ.set i (some v)) := by
  refine ⟨by rw [List.length_set, List.length_set]; exact r.len, fun j e hj => ?_⟩
  by_cases hi : i = j
  · subst hi
    by_cases hl : i < env.length
    · rw [List.getElem?_set_self hl] at hj
      have := Option.some.inj (Option.some.inj hj)
      subst this
      exact ⟨v, by rw [List.getElem?_set_self (by rw [← r.len]; exact hl)], h⟩
    · rw [List.getElem?_eq_none (by rw [List.length_set]; omega)] at hj
      cases hj
  · rw [List.getElem?_set_ne hi] at hj ⊢
    exact r.get j e hj
/-- an exception's class and line -/
def ExcR (K : PySem.W.Frag) (ca : Nat → Addr) (p : Ph) (F H : Hp) (x : Exn) (cls : Value) (dd : Option Addr) : Prop :=
  cls = .ref (ca x.cls) ∧ match x.line with
    | none => True
    | some d => ∃ a v, dd = some a ∧ H a = some (.xd [(Str.ofString "line", v)]) ∧ Rel K p F v d
structure G where
  K : PySem.W.Frag
  ca : Nat → Addr
section
variable {α β : Type} {K : PySem.W.Frag} {ca : Nat → Addr} {W : WX}
/-- an evaluation's end, met by what is wanted -/
def At (K : PySem.W.Frag) (ca : Nat → Addr) (W : WX) (σ : L2.St) (rel : Ph → Hp → β → α → Prop) (p : Ph) (F : Hp) (H : Hp) (res : Res α) (Q : β → Hp → Prop) : Prop :=
  ∃ r, res = some r ∧ match r with
    | .ok a M' => ∀ p' F' H' v, Step p F H p' F' H' → RM K p' F' M' H' → rel p' F' v a → Q v H'
    | .er x M' => ∀ p' F' H' cls dd, Step p F H p' F' H' → RM K p' F' M' H' → ExcR K ca p' F' H' x cls dd → W cls dd σ H'
/-- a reading by an evaluation -/
def tG (K : PySem.W.Frag) (ca : Nat → Addr) (W : WX) (rel : Ph → Hp → β → α → Prop) (f : Env → Mem → Res α) : L2.St → Hp → (β → Hp → Prop) → Prop :=
  fun σ H Q => ∃ p F env M, RM K p F M H ∧ RE K p F env σ ∧ At K ca W σ rel p F H (f env M) Q
abbrev tE (K : PySem.W.Frag) (ca : Nat → Addr) (W : WX) (f : Env → Mem → Res D) : TE := tG K ca W (Rel K) f
abbrev tEs (K : PySem.W.Frag) (ca : Nat → Addr) (W : WX) (f : Env → Mem → Res (List D)) : TA := tG K ca W (Rels K) f
theorem At.imp {σ : L2.St} {rel : Ph → Hp → β → α → Prop} {p : Ph} {F H : Hp} {res : Res α} {Q Q' : β → Hp → Prop} (h : At K ca W σ rel p F H res Q) (i : ∀ v H', Q v H' → Q' v H') : At K ca W σ rel p F H res Q' := by
  obtain ⟨r, e, h⟩ := h
  refine ⟨r, e, ?_⟩
  cases r with
  | ok a M => exact fun p' F' H' v s r q => i _ _ (h p' F' H' v s r q)
  | er x M => exact h
/-- one after the other -/
theorem At.bind {γ δ : Type} {σ : L2.St} {rel : Ph → Hp → β → α → Prop} {rel1 : Ph → Hp → δ → γ → Prop} {p : Ph} {F H : Hp} {res : Res γ} {k : γ → Mem → Res α} {Q : β → Hp → Prop} (h : At K ca W σ rel p F H (res.bind k) Q) :
    At K ca W σ rel1 p F H res fun v H1 => ∃ p1 F1 M1 d, Step p F H p1 F1 H1 ∧ RM K p1 F1 M1 H1 ∧ rel1 p1 F1 v d ∧ At K ca W σ rel p1 F1 H1 (k d M1) Q := by
  obtain ⟨r, e, h⟩ := h
  cases res with
  | none => cases e
  | some res =>
    cases res with
    | ok a M =>
      refine ⟨.ok a M, rfl, fun p' F' H' v s rm q => ⟨p', F', M, a, s, rm, q, r, e, ?_⟩⟩
      cases r with
      | ok b M2 => exact fun p2 F2 H2 w s2 => h p2 F2 H2 w (s.trans s2)
      | er x M2 => exact fun p2 F2 H2 c d s2 => h p2 F2 H2 c d (s.trans s2)
    | er x M =>
      have e : some (R.er x M) = some r := e
      cases e
      exact ⟨_, rfl, h⟩
theorem At.ok_ {σ : L2.St} {rel : Ph → Hp → β → α → Prop} {p : Ph} {F H : Hp} {a : α} {M : Mem} {Q : β → Hp → Prop} {v : β} (rm : RM K p F M H) (h : At K ca W σ rel p F H (ok a M) Q) (r : rel p F v a) : Q v H := by
  obtain ⟨r', e, h⟩ := h
  cases e
  exact h p F H v (Step.refl ..) rm r
/-- a pure step: what a rule by data asks -/
theorem At.lift_ {σ : L2.St} {p : Ph} {F H : Hp} {o : Option D} {M : Mem} {Q : VK} (h : At K ca W σ (Rel K) p F H (lift o M) Q) :
    ∃ r, o = some r ∧ ∀ p' F' H' v, Step p F H p' F' H' → RM K p' F' M H' → Rel K p' F' v r → Q v H' := by
  obtain ⟨r, e, h⟩ := h
  cases o with
  | none => cases e
  | some a => cases e; exact ⟨a, rfl, h⟩
end
section
variable {X : Cx} {ca : Nat → Addr} {W : WX} {e a b c : Expr} {es : List Expr} {f g h : Env → Mem → Res D} {pos : Pos}
theorem pe_imp {t t' : TE} (h : PE X e t) (i : ∀ σ H Q, t' σ H Q → t σ H Q) : PE X e t' := ⟨fun pins s σ H Q I q => h.run pins s σ H Q I (i σ H Q q)⟩
theorem pt_imp {t t' : TT} (h : PT X e t) (i : ∀ σ H Q, t' σ H Q → t σ H Q) : PT X e t' := ⟨fun pins s σ H Q I q => h.run pins s σ H Q I (i σ H Q q)⟩
theorem pw_imp {t t' : TT} (h : PW X e t) (i : ∀ σ H Q, t' σ H Q → t σ H Q) : PW X e t' := ⟨fun w pins s σ H Q I q => h.run w pins s σ H Q I (i σ H Q q)⟩
theorem pa_imp {t t' : TA} (h : PA X es t) (i : ∀ σ H Q, t' σ H Q → t σ H Q) : PA X es t' := ⟨fun w pins s σ H Q I q => h.run w pins s σ H Q I (i σ H Q q)⟩
/-- a name -/
theorem e_var {i : Nat} {x : Str} (hN : X.N[i]? = some x) (hv : Vis X.env.scope x) (hd : (x == ("__debug__" : Str)) = false) (hcd : (x == ("__classdict__" : Str)) = false) :
    PE X (.Name x pos) (tE X.K ca W fun env M => getV env i M) := by
  refine pe_imp (pe_var hN hv hd hcd) fun σ H Q ⟨p, F, env, M, rm, re, q⟩ => ?_
  have q : At X.K ca W σ (Rel X.K) p F H (getV env i M) Q := q
  unfold getV at q
  split at q
  · rename_i d z
    obtain ⟨v, h1, h2⟩ := re.get i d z
    exact ⟨v, h1, q.ok_ rm h2⟩
  · obtain ⟨r, e, _⟩ := q; cases e
/-- a constant -/
theorem e_con {v : V} {d : D} (h : PE X e (tC v)) (r : ∀ p F, Rel X.K p F v d) : PE X e (tE X.K ca W fun _ M => ok d M) :=
  pe_imp h fun σ H Q ⟨p, F, env, M, rm, re, q⟩ => q.ok_ rm (r p F)
theorem e_op (o : Op) (ha : PE X a (tE X.K ca W f)) (hb : PE X b (tE X.K ca W g)) :
    PE X (.BinOp a (pyOp o) b pos) (tE X.K ca W fun env M => (f env M).bind fun x M => (g env M).bind fun y M => lift (eOp M o x y) M) := by
  refine pe_imp (pe_op (op_D o) ha hb) fun σ H Q ⟨p, F, env, M, rm, re, q⟩ => ?_
  refine ⟨p, F, env, M, rm, re, q.bind.imp fun x H1 ⟨p1, F1, M1, d, s1, rm1, r1, q1⟩ => ?_⟩
  refine ⟨p1, F1, env, M1, rm1, re.mono s1.toLe, q1.bind.imp fun y H2 ⟨p2, F2, M2, e, s2, rm2, r2, q2⟩ => ?_⟩
  obtain ⟨r, e1, q3⟩ := q2.lift_
  exact ⟨p2, F2, M2, d, e, r, rm2, r1.mono s2.toLe, r2, e1, q3⟩
theorem e_neg (ha : PE X a (tE X.K ca W f)) : PE X (.UnaryOp .USub a pos) (tE X.K ca W fun env M => (f env M).bind fun x M => negI x M) := by
  refine pe_imp (pe_un un_neg ha) fun σ H Q ⟨p, F, env, M, rm, re, q⟩ => ?_
  refine ⟨p, F, env, M, rm, re, q.bind.imp fun x H1 ⟨p1, F1, M1, d, s1, rm1, r1, q1⟩ => ?_⟩
  cases r1 with
  | int i => exact ⟨i, rfl, q1.ok_ rm1 (.int _)⟩
  | _ => obtain ⟨r, e, _⟩ := q1; cases e
theorem e_cmp (o : Co) (hu : X.A.units + 65 < cLine) (ha : PE X a (tE X.K ca W f)) (hb : PE X b (tE X.K ca W g)) (hm : behindInMarks (pyCo o) b = false) :
    PE X (.Compare a [pyCo o] [b] pos) (tE X.K ca W fun env M => (f env M).bind fun x M => (g env M).bind fun y M => lift ((eCo o x y).map .bl) M) := by
  refine pe_imp (pe_cmpR (co_D o hu) ha hb hm) fun σ H Q ⟨p, F, env, M, rm, re, q⟩ => ?_
  refine ⟨p, F, env, M, rm, re, q.bind.imp fun x H1 ⟨p1, F1, M1, d, s1, rm1, r1, q1⟩ => ?_⟩
  refine ⟨p1, F1, env, M1, rm1, re.mono s1.toLe, q1.bind.imp fun y H2 ⟨p2, F2, M2, e, s2, rm2, r2, q2⟩ => ?_⟩
  obtain ⟨r, e1, q3⟩ := q2.lift_
  exact ⟨p2, F2, M2, d, e, r, rm2, r1.mono s2.toLe, r2, e1, q3⟩
theorem Rel.isNon {K : PySem.W.Frag} {p : Ph} {F : Hp} {v : V} {d : D} (r : Rel K p F v d) : decide (v = .non) = Rf.isNon d := by
  cases r <;> simp [Rf.isNon]
theorem e_isN {j : Nat} {pos' : Pos} (ha : PE X a (tE X.K ca W f)) : PE X (.Compare a [.Is] [.Constant .none j pos'] pos) (tE X.K ca W fun env M => (f env M).bind fun x M => ok (.bl (Rf.isNon x)) M) := by
  refine pe_imp (pe_cmp (pc_isN ha)) fun σ H Q ⟨p, F, env, M, rm, re, q⟩ => ?_
  refine ⟨p, F, env, M, rm, re, q.bind.imp fun x H1 ⟨p1, F1, M1, d, s1, rm1, r1, q1⟩ => ?_⟩
  show Q (.bl (decide (x = .non))) H1
  rw [r1.isNon]
  exact q1.ok_ rm1 (.bl _)
theorem e_notN {j : Nat} {pos' : Pos} (ha : PE X a (tE X.K ca W f)) : PE X (.Compare a [.IsNot] [.Constant .none j pos'] pos) (tE X.K ca W fun env M => (f env M).bind fun x M => ok (.bl (!Rf.isNon x)) M) := by
  refine pe_imp (pe_cmp (pc_notN ha)) fun σ H Q ⟨p, F, env, M, rm, re, q⟩ => ?_
  refine ⟨p, F, env, M, rm, re, q.bind.imp fun x H1 ⟨p1, F1, M1, d, s1, rm1, r1, q1⟩ => ?_⟩
  show Q (.bl (!decide (x = .non))) H1
  rw [r1.isNon]
  exact q1.ok_ rm1 (.bl _)

/-! ### tests -/
abbrev eqB : Ph → Hp → Bool → Bool → Prop := fun _ _ b d => b = d
abbrev tT (K : PySem.W.Frag) (ca : Nat → Addr) (W : WX) (f : Env → Mem → Res D) : TT := tG K ca W eqB (fun env M => asB (f env M))
theorem At.toB {K : PySem.W.Frag} {σ : L2.St} {p : Ph} {F H : Hp} {r : Res D} {Q : Bool → Hp → Prop} (h : At K ca W σ eqB p F H (asB r) Q) : At K ca W σ (Rel K) p F H r fun v H1 => ∃ b, v = .bl b ∧ Q b H1 := by
  refine (At.bind (rel1 := Rel K) h).imp fun x H1 ⟨p1, F1, M1, d, s1, rm1, r1, q1⟩ => ?_
  cases r1 with
  | bl b => exact ⟨b, rfl, q1.ok_ rm1 rfl⟩
  | _ => obtain ⟨r, e, _⟩ := q1; cases e
theorem t_val (he : PE X e (tE X.K ca W f)) (hw : ∀ whole, isTrue e X.env whole = (do let v ← whole; standAt e.pos; holding [v] (truthy v))) : PT X e (tT X.K ca W f) :=
  pt_imp (pt_val he hw) fun σ H Q ⟨p, F, env, M, rm, re, q⟩ => ⟨p, F, env, M, rm, re, q.toB⟩
theorem t_cmp (o : Co) (hu : X.A.units + 65 < cLine) (ha : PE X a (tE X.K ca W f)) (hb : PE X b (tE X.K ca W g)) (hm : behindInMarks (pyCo o) b = false) :
    PT X (.Compare a [pyCo o] [b] pos) (tT X.K ca W fun env M => (f env M).bind fun x M => (g env M).bind fun y M => lift ((eCo o x y).map .bl) M) := by
  refine pt_imp (pt_cmpR (co_D o hu) ha hb hm) fun σ H Q ⟨p, F, env, M, rm, re, q⟩ => ?_
  refine ⟨p, F, env, M, rm, re, q.toB.bind.imp fun x H1 ⟨p1, F1, M1, d, s1, rm1, r1, q1⟩ => ?_⟩
  refine ⟨p1, F1, env, M1, rm1, re.mono s1.toLe, q1.bind.imp fun y H2 ⟨p2, F2, M2, e, s2, rm2, r2, q2⟩ => ?_⟩
  obtain ⟨r, e1, q3⟩ := q2.lift_
  exact ⟨p2, F2, M2, d, e, r, rm2, r1.mono s2.toLe, r2, e1, q3⟩
theorem t_isN {j : Nat} {pos' : Pos} (ha : PE X a (tE X.K ca W f)) : PT X (.Compare a [.Is] [.Constant .none j pos'] pos) (tT X.K ca W fun env M => (f env M).bind fun x M => ok (.bl (Rf.isNon x)) M) := by
  refine pt_imp (pt_cmp (pc_isN ha)) fun σ H Q ⟨p, F, env, M, rm, re, q⟩ => ?_
  refine ⟨p, F, env, M, rm, re, q.toB.bind.imp fun x H1 ⟨p1, F1, M1, d, s1, rm1, r1, q1⟩ => ?_⟩
  refine ⟨decide (x = .non), rfl, ?_⟩
  rw [r1.isNon]
  obtain ⟨b, e, q⟩ := q1.ok_ rm1 (.bl _)
  cases e
  exact q
theorem t_notN {j : Nat} {pos' : Pos} (ha : PE X a (tE X.K ca W f)) : PT X (.Compare a [.IsNot] [.Constant .none j pos'] pos) (tT X.K ca W fun env M => (f env M).bind fun x M => ok (.bl (!Rf.isNon x)) M) := by
  refine pt_imp (pt_cmp (pc_notN ha)) fun σ H Q ⟨p, F, env, M, rm, re, q⟩ => ?_
  refine ⟨p, F, env, M, rm, re, q.toB.bind.imp fun x H1 ⟨p1, F1, M1, d, s1, rm1, r1, q1⟩ => ?_⟩
  refine ⟨!decide (x = .non), rfl, ?_⟩
  rw [r1.isNon]
  obtain ⟨b, e, q⟩ := q1.ok_ rm1 (.bl _)
  cases e
  exact q
/-- the readings of a chain -/
theorem chain_r {p q : Co} {σ : L2.St} {H : Hp} {Q : VK} {ph : Ph} {F : Hp} {env : Env} {M : Mem} (rm : RM X.K ph F M H) (re : RE X.K ph F env σ)
    (h3 : At X.K ca W σ (Rel X.K) ph F H ((f env M).bind fun x M => (g env M).bind fun y M => (lift (eCo p x y) M).bind fun t M => if t then (h env M).bind fun z M => lift ((eCo q y z).map .bl) M else ok (.bl false) M) Q) :
    tChain (rB X.K (gCo p)) (rB X.K (gCo q)) (tE X.K ca W f) (tE X.K ca W g) (tE X.K ca W h) σ H Q := by
  refine ⟨ph, F, env, M, rm, re, h3.bind.imp fun x H1 ⟨p1, F1, M1, d, s1, rm1, r1, q1⟩ => ?_⟩
  refine ⟨p1, F1, env, M1, rm1, re.mono s1.toLe, q1.bind.imp fun y H2 ⟨p2, F2, M2, e, s2, rm2, r2, q2⟩ => ?_⟩
  have re2 := (re.mono s1.toLe).mono s2.toLe
  cases z : eCo p d e with
  | none => rw [z] at q2; obtain ⟨r, e, _⟩ := q2; cases e
  | some t =>
    rw [z] at q2
    refine ⟨p2, F2, M2, d, e, .bl t, rm2, r1.mono s2.toLe, r2, by unfold gCo; rw [z]; rfl, fun p3 F3 H3 v s3 rm3 r3 => ?_⟩
    cases r3
    refine ⟨t, rfl, ?_⟩
    cases t with
    | false =>
      rw [if_neg Bool.false_ne_true]
      obtain ⟨r, e9, q9⟩ := q2
      cases e9
      exact q9 p3 F3 H3 _ s3 rm3 (.bl false)
    | true =>
      rw [if_pos rfl]
      have q3 : At X.K ca W σ (Rel X.K) p3 F3 H3 ((h env M2).bind fun z M => lift ((eCo q e z).map .bl) M) Q := by
        obtain ⟨r, e9, q9⟩ := q2
        refine ⟨r, e9, ?_⟩
        cases r with
        | ok a M => exact fun p' F' H' v s => q9 p' F' H' v (s3.trans s)
        | er x M => exact fun p' F' H' c d s => q9 p' F' H' c d (s3.trans s)
      refine ⟨p3, F3, env, M2, rm3, re2.mono s3.toLe, q3.bind.imp fun w H4 ⟨p4, F4, M4, u, s4, rm4, r4, q4⟩ => ?_⟩
      obtain ⟨r, e1, q5⟩ := q4.lift_
      exact ⟨p4, F4, M4, e, u, r, rm4, (r2.mono s3.toLe).mono s4.toLe, r4, e1, q5⟩
theorem e_chain {p q : Co} (hu : X.A.units + 65 < cLine) (ha : PE X a (tE X.K ca W f)) (hb : PE X b (tE X.K ca W g)) (hc : PE X c (tE X.K ca W h)) (hm : lastMarks [pyCo p, pyCo q] [b, c] = false) :
    PE X (.Compare a [pyCo p, pyCo q] [b, c] pos) (tE X.K ca W fun env M => (f env M).bind fun x M => (g env M).bind fun y M => (lift (eCo p x y) M).bind fun t M => if t then (h env M).bind fun z M => lift ((eCo q y z).map .bl) M else ok (.bl false) M) :=
  pe_imp (pe_chain (co_D p hu) (co_D q hu) ha hb hc hm) fun σ H Q ⟨ph, F, env, M, rm, re, h3⟩ => chain_r rm re h3
theorem t_chain {p q : Co} (hu : X.A.units + 65 < cLine) (ha : PE X a (tE X.K ca W f)) (hb : PE X b (tE X.K ca W g)) (hc : PE X c (tE X.K ca W h)) (hm : lastMarks [pyCo p, pyCo q] [b, c] = false) :
    PT X (.Compare a [pyCo p, pyCo q] [b, c] pos) (tT X.K ca W fun env M => (f env M).bind fun x M => (g env M).bind fun y M => (lift (eCo p x y) M).bind fun t M => if t then (h env M).bind fun z M => lift ((eCo q y z).map .bl) M else ok (.bl false) M) :=
  pt_imp (pt_chain (co_D p hu) (co_D q hu) ha hb hc hm) fun σ H Q ⟨ph, F, env, M, rm, re, h3⟩ => chain_r rm re h3.toB
/-- and, or, not -/
theorem asB_bind {α : Type} {r : Res α} {k : α → Mem → Res D} : asB (r.bind k) = r.bind fun x M => asB (k x M) := by
  cases r with
  | none => rfl
  | some r => cases r <;> rfl
theorem asB_if {t : Bool} {r s : Res D} : asB (if t = true then r else s) = if t = true then asB r else asB s := by cases t <;> rfl
theorem At.if_ {K : PySem.W.Frag} {α β : Type} {rel : Ph → Hp → β → α → Prop} {σ : L2.St} {p : Ph} {F H : Hp} {t : Bool} {r s : Res α} {Q : β → Hp → Prop} (h : At K ca W σ rel p F H (if t = true then r else s) Q) :
    if t = true then At K ca W σ rel p F H r Q else At K ca W σ rel p F H s Q := by cases t <;> exact h
theorem e_and {rest : List Expr} {pos' : Pos} (ha : PE X a (tE X.K ca W f)) (hb : PE X (.BoolOp .And (b :: rest) pos) (tE X.K ca W g)) :
    PE X (.BoolOp .And (a :: b :: rest) pos) (tE X.K ca W fun env M => (asB (f env M)).bind fun t M => if t then g env M else ok (.bl false) M) := by
  refine pe_imp (pe_and ha hb) fun σ H Q ⟨p, F, env, M, rm, re, q⟩ => ?_
  refine ⟨p, F, env, M, rm, re, (At.toB (q.bind (rel1 := eqB))).imp fun x H1 ⟨t, e, p1, F1, M1, d, s1, rm1, r1, q1⟩ => ?_⟩
  subst e
  cases r1
  refine ⟨t, rfl, ?_⟩
  cases t with
  | true => exact ⟨p1, F1, env, M1, rm1, re.mono s1.toLe, q1⟩
  | false => exact q1.ok_ rm1 (.bl false)
theorem e_or {rest : List Expr} (ha : PE X a (tE X.K ca W f)) (hb : PE X (.BoolOp .Or (b :: rest) pos) (tE X.K ca W g)) :
    PE X (.BoolOp .Or (a :: b :: rest) pos) (tE X.K ca W fun env M => (asB (f env M)).bind fun t M => if t then ok (.bl true) M else g env M) := by
  refine pe_imp (pe_or ha hb) fun σ H Q ⟨p, F, env, M, rm, re, q⟩ => ?_
  refine ⟨p, F, env, M, rm, re, (At.toB (q.bind (rel1 := eqB))).imp fun x H1 ⟨t, e, p1, F1, M1, d, s1, rm1, r1, q1⟩ => ?_⟩
  subst e
  cases r1
  refine ⟨t, rfl, ?_⟩
  cases t with
  | true => exact q1.ok_ rm1 (.bl true)
  | false => exact ⟨p1, F1, env, M1, rm1, re.mono s1.toLe, q1⟩
theorem e_one {op : BoolOp} (ha : PE X a (tE X.K ca W f)) : PE X (.BoolOp op [a] pos) (tE X.K ca W f) := pe_one ha
theorem e_not (ha : PE X a (tE X.K ca W f)) : PE X (.UnaryOp .Not a pos) (tE X.K ca W fun env M => (asB (f env M)).bind fun t M => ok (.bl (!t)) M) := by
  refine pe_imp (pe_not ha) fun σ H Q ⟨p, F, env, M, rm, re, q⟩ => ?_
  refine ⟨p, F, env, M, rm, re, (At.toB (q.bind (rel1 := eqB))).imp fun x H1 ⟨t, e, p1, F1, M1, d, s1, rm1, r1, q1⟩ => ?_⟩
  subst e
  cases r1
  exact ⟨t, rfl, q1.ok_ rm1 (.bl _)⟩
theorem tru_of {K : PySem.W.Frag} {p : Ph} {F H : Hp} {x : V} {d : D} {t : Bool} (r : Rel K p F x d) (h : notD d = some t) : TruV K x H (!t) := by
  cases r <;> first | (cases h; done) | skip
  case bl b => cases h; exact Bool.not_not b
  case int i => cases h; exact Bool.not_not _
theorem e_notV (ha : PE X a (tE X.K ca W f)) : PE X (.UnaryOp .Not a pos) (tE X.K ca W fun env M => (f env M).bind fun x M => lift ((notD x).map .bl) M) := by
  refine pe_imp (pe_notT ha) fun σ H Q ⟨p, F, env, M, rm, re, q⟩ => ?_
  refine ⟨p, F, env, M, rm, re, q.bind.imp fun x H1 ⟨p1, F1, M1, d, s1, rm1, r1, q1⟩ => ?_⟩
  obtain ⟨r, e1, q3⟩ := q1.lift_
  cases z : notD d with
  | none => rw [z] at e1; cases e1
  | some t =>
    rw [z] at e1
    cases e1
    refine ⟨!t, tru_of r1 z, ?_⟩
    rw [Bool.not_not]
    exact q3 _ _ _ _ (Step.refl ..) rm1 (.bl _)
theorem t_notV (ha : PE X a (tE X.K ca W f)) (he : ∀ whole, isTrue a X.env whole = (do let v ← whole; standAt a.pos; holding [v] (truthy v))) : PT X (.UnaryOp .Not a pos) (tT X.K ca W fun env M => (f env M).bind fun x M => lift ((notD x).map .bl) M) := by
  refine pt_imp (pt_not (pt_truth ha he)) fun σ H Q ⟨p, F, env, M, rm, re, q⟩ => ?_
  refine ⟨p, F, env, M, rm, re, q.toB.bind.imp fun x H1 ⟨p1, F1, M1, d, s1, rm1, r1, q1⟩ => ?_⟩
  obtain ⟨r, e1, q3⟩ := q1.lift_
  cases z : notD d with
  | none => rw [z] at e1; cases e1
  | some t =>
    rw [z] at e1
    cases e1
    refine ⟨!t, tru_of r1 z, ?_⟩
    obtain ⟨b, e, q⟩ := q3 _ _ _ _ (Step.refl ..) rm1 (.bl _)
    cases e
    rw [Bool.not_not]
    exact q
theorem t_and {rest : List Expr} (ha : PT X a (tT X.K ca W f)) (hb : PW X (.BoolOp .And (b :: rest) pos) (tT X.K ca W g)) :
    PW X (.BoolOp .And (a :: b :: rest) pos) (tT X.K ca W fun env M => (asB (f env M)).bind fun t M => if t then g env M else ok (.bl false) M) := by
  refine pw_imp (pw_and ha hb) fun σ H Q ⟨p, F, env, M, rm, re, q⟩ => ?_
  have q : At X.K ca W σ eqB p F H (asB ((asB (f env M)).bind fun t M => if t then g env M else ok (.bl false) M)) Q := q
  rw [asB_bind] at q
  refine ⟨p, F, env, M, rm, re, (q.bind (rel1 := eqB)).imp fun t H1 ⟨p1, F1, M1, d, s1, rm1, r1, q1⟩ => ?_⟩
  cases r1
  rw [asB_if] at q1
  cases t with
  | true => exact ⟨p1, F1, env, M1, rm1, re.mono s1.toLe, q1⟩
  | false => exact q1.ok_ rm1 rfl
theorem t_or {rest : List Expr} (ha : PT X a (tT X.K ca W f)) (hb : PW X (.BoolOp .Or (b :: rest) pos) (tT X.K ca W g)) :
    PW X (.BoolOp .Or (a :: b :: rest) pos) (tT X.K ca W fun env M => (asB (f env M)).bind fun t M => if t then ok (.bl true) M else g env M) := by
  refine pw_imp (pw_or ha hb) fun σ H Q ⟨p, F, env, M, rm, re, q⟩ => ?_
  have q : At X.K ca W σ eqB p F H (asB ((asB (f env M)).bind fun t M => if t then ok (.bl true) M else g env M)) Q := q
  rw [asB_bind] at q
  refine ⟨p, F, env, M, rm, re, (q.bind (rel1 := eqB)).imp fun t H1 ⟨p1, F1, M1, d, s1, rm1, r1, q1⟩ => ?_⟩
  cases r1
  rw [asB_if] at q1
  cases t with
  | true => exact q1.ok_ rm1 rfl
  | false => exact ⟨p1, F1, env, M1, rm1, re.mono s1.toLe, q1⟩
theorem t_not (ha : PT X a (tT X.K ca W f)) : PT X (.UnaryOp .Not a pos) (tT X.K ca W fun env M => (asB (f env M)).bind fun t M => ok (.bl (!t)) M) := by
  refine pt_imp (pt_not ha) fun σ H Q ⟨p, F, env, M, rm, re, q⟩ => ?_
  have q : At X.K ca W σ eqB p F H (asB ((asB (f env M)).bind fun t M => ok (.bl (!t)) M)) Q := q
  rw [asB_bind] at q
  refine ⟨p, F, env, M, rm, re, (q.bind (rel1 := eqB)).imp fun t H1 ⟨p1, F1, M1, d, s1, rm1, r1, q1⟩ => ?_⟩
  cases r1
  exact q1.ok_ rm1 rfl
theorem e_ite (hc : PT X c (tT X.K ca W f)) (ha : PE X a (tE X.K ca W g)) (hb : PE X b (tE X.K ca W h)) :
    PE X (.IfExp c a b pos) (tE X.K ca W fun env M => (asB (f env M)).bind fun t M => if t then g env M else h env M) := by
  refine pe_imp (pe_ifExp hc ha hb) fun σ H Q ⟨p, F, env, M, rm, re, q⟩ => ?_
  refine ⟨p, F, env, M, rm, re, (q.bind (rel1 := eqB)).imp fun t H1 ⟨p1, F1, M1, d, s1, rm1, r1, q1⟩ => ?_⟩
  cases r1
  cases t with
  | true => exact ⟨p1, F1, env, M1, rm1, re.mono s1.toLe, q1⟩
  | false => exact ⟨p1, F1, env, M1, rm1, re.mono s1.toLe, q1⟩
end
end Rf
end T_RfExpr
section T_RfExpr2
set_option Elab.async false
set_option linter.all false
set_option maxRecDepth 100000
set_option maxHeartbeats 1000000
/-! Rf: arguments, displays, calls, places -/
namespace Rf
open PySem PySem.Spec PyProof.Rows L2
def isStar : Expr → Bool
  | .Starred _ _ => true
  | _ => false
theorem star_cons {e : Expr} {es : List Expr} {env : PySem.Env} (h : isStar e = false) : starEach (e :: es) env = (false, eval e env) :: starEach es env := by
  cases e <;> first | rfl | (cases h)
def noStars (es : List Expr) : Bool := es.all fun e => !isStar e
theorem noStars_cons {e : Expr} {es : List Expr} (h : noStars (e :: es) = true) : isStar e = false ∧ noStars es = true := by
  have h := all_cons2 h
  exact ⟨by simpa using h.1, h.2⟩
theorem no_star_any {pos : Pos} {env : PySem.Env} : ∀ {es : List Expr}, noStars es = true → (backTo pos (starEach es env)).any (·.1) = false
  | [], _ => rfl
  | e :: es, h => by
    obtain ⟨h1, h2⟩ := noStars_cons h
    rw [star_cons h1]
    show (false || (backTo pos (starEach es env)).any (·.1)) = false
    rw [no_star_any h2]; rfl
section
variable {X : Cx} {ca : Nat → Addr} {W : WX} {e a b c : Expr} {es : List Expr} {f g h : Rf.Env → Mem → Res D} {fs : Rf.Env → Mem → Res (List D)} {pos : Pos}
theorem a_nil : PA X [] (tEs X.K ca W fun _ M => ok [] M) := pa_imp pa_nil fun σ H Q ⟨p, F, env, M, rm, re, q⟩ => q.ok_ rm .nil
theorem a_cons (hs : isStar e = false) (ha : PE X e (tE X.K ca W f)) (hr : PA X es (tEs X.K ca W fs)) :
    PA X (e :: es) (tEs X.K ca W fun env M => (f env M).bind fun x M => (fs env M).bind fun xs M => ok (x :: xs) M) := by
  refine pa_imp (pa_cons ha hr (star_cons hs)) fun σ H Q ⟨p, F, env, M, rm, re, q⟩ => ?_
  refine ⟨p, F, env, M, rm, re, q.bind.imp fun x H1 ⟨p1, F1, M1, d, s1, rm1, r1, q1⟩ => ?_⟩
  refine ⟨p1, F1, env, M1, rm1, re.mono s1.toLe, (q1.bind (rel1 := Rels X.K)).imp fun xs H2 ⟨p2, F2, M2, ds, s2, rm2, r2, q2⟩ => ?_⟩
  exact q2.ok_ rm2 (.cons (r1.mono s2.toLe) r2)
theorem At.cond {K : PySem.W.Frag} {α β : Type} {rel : Ph → Hp → β → α → Prop} {σ : L2.St} {p : Ph} {F H : Hp} {t : Prop} [Decidable t] {r : Res α} {Q : β → Hp → Prop} (h : At K ca W σ rel p F H (if t then r else none) Q) :
    t ∧ At K ca W σ rel p F H r Q := by
  by_cases ht : t
  · rw [if_pos ht] at h; exact ⟨ht, h⟩
  · rw [if_neg ht] at h; obtain ⟨r, e, _⟩ := h; cases e
theorem At.new {K : PySem.W.Frag} {σ : L2.St} {p : Ph} {F H : Hp} {d : D} {M : Mem} {Q : VK} (h : At K ca W σ (Rel K) p F H (ok d M) Q) :
    ∀ p' F' H' v, Step p F H p' F' H' → RM K p' F' M H' → Rel K p' F' v d → Q v H' := by
  obtain ⟨r, e, h⟩ := h
  cases e
  exact h
theorem e_tup {x1 : Nat} (ha : PA X es (tEs X.K ca W fs)) : PE X (.Tuple es x1 pos) (tE X.K ca W fun env M => (fs env M).bind fun xs M => if xs.length ≤ sizeLine then ok (.tup xs) M else none) := by
  refine pe_imp (pe_tup ha) fun σ H Q ⟨p, F, env, M, rm, re, q⟩ => ?_
  refine ⟨p, F, env, M, rm, re, (q.bind (rel1 := Rels X.K)).imp fun xs H1 ⟨p1, F1, M1, ds, s1, rm1, r1, q1⟩ => ?_⟩
  obtain ⟨hl, q2⟩ := q1.cond
  exact ⟨by rw [r1.length]; exact hl, fun z hz => new_tup rm1 hz r1 q2.new⟩
theorem e_lst (ha : PA X es (tEs X.K ca W fs)) : PE X (.List es pos) (tE X.K ca W fun env M => (fs env M).bind fun xs M => if xs.length ≤ sizeLine then ok (.lst xs) M else none) := by
  refine pe_imp (pe_lst ha) fun σ H Q ⟨p, F, env, M, rm, re, q⟩ => ?_
  refine ⟨p, F, env, M, rm, re, (q.bind (rel1 := Rels X.K)).imp fun xs H1 ⟨p1, F1, M1, ds, s1, rm1, r1, q1⟩ => ?_⟩
  obtain ⟨hl, q2⟩ := q1.cond
  exact ⟨by rw [r1.length]; exact hl, fun z hz => new_lst rm1 hz r1 q2.new⟩
/-- a new cell -/
theorem new_cell {K : PySem.W.Frag} {p : Ph} {F H : Hp} {M : Mem} {o : HO} {c : Cell} {q : Addr} {Q : VK} (rm : RM K p F M H) (hq : H q = none) (hc : CellOk K (phNew p M.length q) F (upd H q o) q c)
    (k : ∀ p' F' H' v, Step p F H p' F' H' → RM K p' F' (M ++ [c]) H' → Rel K p' F' v (.cell M.length) → Q v H') : Q (.ref q) (upd H q o) :=
  k (phNew p M.length q) F _ _ (step_cell rm hq) (rm_cell rm hq hc) (.cell phNew_same)
theorem At.newM {K : PySem.W.Frag} {σ : L2.St} {p : Ph} {F H : Hp} {d : D} {M : Mem} {Q : VK} (h : At K ca W σ (Rel K) p F H (ok d M) Q) :
    ∀ p' F' H' v, Step p F H p' F' H' → RM K p' F' M H' → Rel K p' F' v d → Q v H' := h.new
theorem e_lstM (ha : PA X es (tEs X.K ca W fs)) : PE X (.List es pos) (tE X.K ca W fun env M => (fs env M).bind fun xs M => if xs.length ≤ sizeLine ∧ D.lows 0 xs = true then ok (.cell M.length) (M ++ [.lst xs]) else none) := by
  refine pe_imp (pe_lst ha) fun σ H Q ⟨p, F, env, M, rm, re, q⟩ => ?_
  refine ⟨p, F, env, M, rm, re, (q.bind (rel1 := Rels X.K)).imp fun xs H1 ⟨p1, F1, M1, ds, s1, rm1, r1, q1⟩ => ?_⟩
  obtain ⟨hl, q2⟩ := q1.cond
  exact ⟨by rw [r1.length]; exact hl.1, fun z hz => new_cell (c := .lst ds) rm1 hz ⟨xs, upd_same, r1.mono (le_cell rm1), hl.2⟩ q2.new⟩
/-! ### places -/
def isSlice : Expr → Bool
  | .Slice _ _ _ _ => true
  | _ => false
theorem plain_ix (h : isSlice b = false) : PlainIx b := by
  intro o i
  cases b <;> first | rfl | (cases h)
theorem plain_nosl (h : isSlice b = false) : NoSl b := by
  intro o i
  cases b <;> first | rfl | (cases h)
theorem e_idx (hs : isSlice b = false) (ha : PE X a (tE X.K ca W f)) (hb : PE X b (tE X.K ca W g)) :
    PE X (.Subscript a b pos) (tE X.K ca W fun env M => (f env M).bind fun x M => (g env M).bind fun y M => lift (eIdx M x y) M) := by
  refine pe_imp (pe_ix ix_D ha hb (plain_ix hs)) fun σ H Q ⟨p, F, env, M, rm, re, q⟩ => ?_
  refine ⟨p, F, env, M, rm, re, q.bind.imp fun x H1 ⟨p1, F1, M1, d, s1, rm1, r1, q1⟩ => ?_⟩
  refine ⟨p1, F1, env, M1, rm1, re.mono s1.toLe, q1.bind.imp fun y H2 ⟨p2, F2, M2, e, s2, rm2, r2, q2⟩ => ?_⟩
  obtain ⟨r, e1, q3⟩ := q2.lift_
  exact ⟨p2, F2, M2, d, e, r, rm2, r1.mono s2.toLe, r2, e1, q3⟩
/-! ### dicts -/
theorem key_V {K : PySem.W.Frag} {p : Ph} {F : Hp} {v : V} {d : D} {k : Key} (r : Rel K p F v d) (h : keyOf d = some k) : v = kV k := by
  cases r <;> first | (cases h; done) | (cases h; rfl)
theorem find_rel {K : PySem.W.Frag} {p : Ph} {F : Hp} (k : Key) : ∀ (ks : List Key) (vs : List V) (ds : List D), Rels K p F vs ds →
    (lookD ks ds k = none ∧ valV (ks.zip vs) k = none) ∨ ∃ v d, lookD ks ds k = some d ∧ valV (ks.zip vs) k = some v ∧ Rel K p F v d
  | [], vs, ds, r => .inl ⟨by simp [lookD], by simp [valV]⟩
  | k0 :: ks, _, _, .nil => .inl ⟨by simp [lookD], by simp [valV]⟩
  | k0 :: ks, v :: vs, d :: ds, .cons h r => by
    by_cases e : k0 = k
    · refine .inr ⟨v, d, ?_, ?_, h⟩
      · simp [lookD, e]
      · simp [valV, e]
    · have ih := find_rel k ks vs ds r
      have e1 : lookD (k0 :: ks) (d :: ds) k = lookD ks ds k := by simp [lookD, e]
      have e2 : valV ((k0 :: ks).zip (v :: vs)) k = valV (ks.zip vs) k := by simp [valV, e]
      rw [e1, e2]
      exact ih
theorem get_of {K : PySem.W.Frag} {p : Ph} {F H : Hp} {M : Mem} {x y : V} {d e : D} {o : Option D} (rm : RM K p F M H) (r1 : Rel K p F x d) (r2 : Rel K p F y e) (h : eGet M d e = some o) :
    ∃ a ov, x = .ref a ∧ DGet H a y ov ∧ IsD H a ∧ ((o = none ∧ ov = none) ∨ ∃ v z, o = some z ∧ ov = some v ∧ Rel K p F v z) := by
  unfold eGet at h
  split at h
  · rename_i ks xs k e1 e2
    cases h
    have ek := key_V r2 e2
    subst ek
    have main : ∀ (a : Addr) (vs : List V), Rd H a (.dK (ks.zip vs)) → Rels K p F vs xs → ∃ ov, DGet H a (kV k) ov ∧ IsD H a ∧ ((lookD ks xs k = none ∧ ov = none) ∨ ∃ v z, lookD ks xs k = some z ∧ ov = some v ∧ Rel K p F v z) := by
      intro a vs hr rs
      refine ⟨valV (ks.zip vs) k, .inl ⟨_, k, hr, rfl, rfl⟩, .inl ⟨_, hr⟩, ?_⟩
      rcases find_rel k ks vs xs rs with ⟨q1, q2⟩ | ⟨v, z, q1, q2, q3⟩
      · exact .inl ⟨q1, q2⟩
      · exact .inr ⟨v, z, q1, q2, q3⟩
    cases r1 with
    | dic h1 hl s1 =>
      cases e1
      obtain ⟨ov, q⟩ := main _ _ (rm.rdk h1) s1
      exact ⟨_, ov, rfl, q⟩
    | @cell n a h1 =>
      have e1 : (match M[n]? with
        | some (.dic ks xs) => some (ks, xs)
        | _ => none) = some (ks, xs) := e1
      split at e1
      · rename_i hm
        cases e1
        obtain ⟨_, vs, q1, _, q2, _⟩ := rm.cell _ _ _ h1 hm (by intro z; cases z)
        obtain ⟨ov, q⟩ := main a vs (.inl q1) q2
        exact ⟨_, ov, rfl, q⟩
      · cases e1
    | _ => cases e1
  · cases h
theorem e_idxD (hs : isSlice b = false) (hu : X.A.units + 1 < cLine) (ha : PE X a (tE X.K ca W f)) (hb : PE X b (tE X.K ca W g)) :
    PE X (.Subscript a b pos) (tE X.K ca W fun env M => (f env M).bind fun x M => (g env M).bind fun y M => lift ((eGet M x y).bind id) M) := by
  refine pe_imp (pe_dget hu ha hb (plain_nosl hs)) fun σ H Q ⟨p, F, env, M, rm, re, q⟩ => ?_
  refine ⟨p, F, env, M, rm, re, q.bind.imp fun x H1 ⟨p1, F1, M1, d, s1, rm1, r1, q1⟩ => ?_⟩
  refine ⟨p1, F1, env, M1, rm1, re.mono s1.toLe, q1.bind.imp fun y H2 ⟨p2, F2, M2, e, s2, rm2, r2, q2⟩ => ?_⟩
  obtain ⟨r, e1, q3⟩ := q2.lift_
  cases z : eGet M2 d e with
  | none => rw [z] at e1; cases e1
  | some o =>
    rw [z] at e1
    have e1 : o = some r := e1
    obtain ⟨a, ov, rfl, q4, _, q5⟩ := get_of rm2 (r1.mono s2.toLe) r2 z
    rcases q5 with ⟨q5, _⟩ | ⟨v, w, q5, q6, q7⟩
    · rw [q5] at e1; cases e1
    · rw [q5] at e1; cases e1
      subst q6
      exact ⟨a, v, rfl, q4, q3 _ _ _ _ (Step.refl ..) rm2 q7⟩
theorem e_inD (hu : X.A.units + 1 < cLine) (ha : PE X a (tE X.K ca W f)) (hb : PE X b (tE X.K ca W g)) (hm : behindInMarks .In b = false) :
    PE X (.Compare a [.In] [b] pos) (tE X.K ca W fun env M => (f env M).bind fun y M => (g env M).bind fun x M => lift ((eGet M x y).map fun o => .bl o.isSome) M) := by
  refine pe_imp (pe_cmp (pc_din hu ha hb) hm) fun σ H Q ⟨p, F, env, M, rm, re, q⟩ => ?_
  refine ⟨p, F, env, M, rm, re, q.bind.imp fun x H1 ⟨p1, F1, M1, d, s1, rm1, r1, q1⟩ => ?_⟩
  refine ⟨p1, F1, env, M1, rm1, re.mono s1.toLe, q1.bind.imp fun y H2 ⟨p2, F2, M2, e, s2, rm2, r2, q2⟩ => ?_⟩
  obtain ⟨r, e1, q3⟩ := q2.lift_
  obtain ⟨o, e5, rfl⟩ := map_some e1
  obtain ⟨a, ov, rfl, q4, _, q5⟩ := get_of rm2 r2 (r1.mono s2.toLe) e5
  refine ⟨a, ov, rfl, q4, ?_⟩
  have : o.isSome = ov.isSome := by
    rcases q5 with ⟨q5, q6⟩ | ⟨v, w, q5, q6, q7⟩ <;> rw [q5, q6] <;> rfl
  rw [← this]
  exact q3 _ _ _ _ (Step.refl ..) rm2 (.bl _)
theorem e_ninD (hu : X.A.units + 1 < cLine) (ha : PE X a (tE X.K ca W f)) (hb : PE X b (tE X.K ca W g)) (hm : behindInMarks .NotIn b = false) :
    PE X (.Compare a [.NotIn] [b] pos) (tE X.K ca W fun env M => (f env M).bind fun y M => (g env M).bind fun x M => lift ((eGet M x y).map fun o => .bl (!o.isSome)) M) := by
  refine pe_imp (pe_cmp (pc_dnotin hu ha hb) hm) fun σ H Q ⟨p, F, env, M, rm, re, q⟩ => ?_
  refine ⟨p, F, env, M, rm, re, q.bind.imp fun x H1 ⟨p1, F1, M1, d, s1, rm1, r1, q1⟩ => ?_⟩
  refine ⟨p1, F1, env, M1, rm1, re.mono s1.toLe, q1.bind.imp fun y H2 ⟨p2, F2, M2, e, s2, rm2, r2, q2⟩ => ?_⟩
  obtain ⟨r, e1, q3⟩ := q2.lift_
  obtain ⟨o, e5, rfl⟩ := map_some e1
  obtain ⟨a, ov, rfl, q4, _, q5⟩ := get_of rm2 r2 (r1.mono s2.toLe) e5
  refine ⟨a, ov, rfl, q4, ?_⟩
  have : o.isSome = ov.isSome := by
    rcases q5 with ⟨q5, q6⟩ | ⟨v, w, q5, q6, q7⟩ <;> rw [q5, q6] <;> rfl
  rw [← this]
  exact q3 _ _ _ _ (Step.refl ..) rm2 (.bl _)
theorem t_inD (hu : X.A.units + 1 < cLine) (ha : PE X a (tE X.K ca W f)) (hb : PE X b (tE X.K ca W g)) (hm : behindInMarks .In b = false) :
    PT X (.Compare a [.In] [b] pos) (tT X.K ca W fun env M => (f env M).bind fun y M => (g env M).bind fun x M => lift ((eGet M x y).map fun o => .bl o.isSome) M) := by
  refine pt_imp (pt_cmp (pc_din hu ha hb) hm) fun σ H Q ⟨p, F, env, M, rm, re, q⟩ => ?_
  refine ⟨p, F, env, M, rm, re, q.toB.bind.imp fun x H1 ⟨p1, F1, M1, d, s1, rm1, r1, q1⟩ => ?_⟩
  refine ⟨p1, F1, env, M1, rm1, re.mono s1.toLe, q1.bind.imp fun y H2 ⟨p2, F2, M2, e, s2, rm2, r2, q2⟩ => ?_⟩
  obtain ⟨r, e1, q3⟩ := q2.lift_
  obtain ⟨o, e5, rfl⟩ := map_some e1
  obtain ⟨a, ov, rfl, q4, _, q5⟩ := get_of rm2 r2 (r1.mono s2.toLe) e5
  refine ⟨a, ov, rfl, q4, ?_⟩
  have : o.isSome = ov.isSome := by
    rcases q5 with ⟨q5, q6⟩ | ⟨v, w, q5, q6, q7⟩ <;> rw [q5, q6] <;> rfl
  rw [← this]
  exact q3 _ _ _ _ (Step.refl ..) rm2 (.bl _)
theorem t_ninD (hu : X.A.units + 1 < cLine) (ha : PE X a (tE X.K ca W f)) (hb : PE X b (tE X.K ca W g)) (hm : behindInMarks .NotIn b = false) :
    PT X (.Compare a [.NotIn] [b] pos) (tT X.K ca W fun env M => (f env M).bind fun y M => (g env M).bind fun x M => lift ((eGet M x y).map fun o => .bl (!o.isSome)) M) := by
  refine pt_imp (pt_cmp (pc_dnotin hu ha hb) hm) fun σ H Q ⟨p, F, env, M, rm, re, q⟩ => ?_
  refine ⟨p, F, env, M, rm, re, q.toB.bind.imp fun x H1 ⟨p1, F1, M1, d, s1, rm1, r1, q1⟩ => ?_⟩
  refine ⟨p1, F1, env, M1, rm1, re.mono s1.toLe, q1.bind.imp fun y H2 ⟨p2, F2, M2, e, s2, rm2, r2, q2⟩ => ?_⟩
  obtain ⟨r, e1, q3⟩ := q2.lift_
  obtain ⟨o, e5, rfl⟩ := map_some e1
  obtain ⟨a, ov, rfl, q4, _, q5⟩ := get_of rm2 r2 (r1.mono s2.toLe) e5
  refine ⟨a, ov, rfl, q4, ?_⟩
  have : o.isSome = ov.isSome := by
    rcases q5 with ⟨q5, q6⟩ | ⟨v, w, q5, q6, q7⟩ <;> rw [q5, q6] <;> rfl
  rw [← this]
  exact q3 _ _ _ _ (Step.refl ..) rm2 (.bl _)
/-! ### built-ins by name -/
theorem e_bi {id : String} {x : Str} {p : Pos} {gb : Mem → List D → Option D} (hc : CallR X (.builtin id) (rA X.K gb)) (hg : Gl X x) (hm : X.mg x = none) (hv : bootBuiltins x = some (.builtin id)) (ha : PA X (e :: es) (tEs X.K ca W fs))
    (hn : x ≠ "__name__") (hdb : (x == ("__debug__" : Str)) = false) (hs : noStars (e :: es) = true) :
    PE X (.Call (.Name x p) (e :: es) [] pos) (tE X.K ca W fun env M => (fs env M).bind fun xs M => lift (gb M xs) M) := by
  obtain ⟨s1, s2⟩ := noStars_cons hs
  refine pe_imp (pe_callB hc hg hm hv ha hn hdb (star_cons s1) (no_star_any s2)) fun σ H Q ⟨p, F, env, M, rm, re, q⟩ => ?_
  refine ⟨p, F, env, M, rm, re, (q.bind (rel1 := Rels X.K)).imp fun xs H1 ⟨p1, F1, M1, ds, s1, rm1, r1, q1⟩ => ?_⟩
  obtain ⟨r, e1, q3⟩ := q1.lift_
  exact ⟨p1, F1, M1, ds, r, rm1, r1, e1, q3⟩
theorem e_ty {T : String} {x : Str} {p : Pos} {gb : Mem → List D → Option D} (hc : CallR X (.type T) (rA X.K gb)) (hg : Gl X x) (hm : X.mg x = none) (hv : bootBuiltins x = some (.type T)) (ha : PA X (e :: es) (tEs X.K ca W fs))
    (hn : x ≠ "__name__") (hdb : (x == ("__debug__" : Str)) = false) (hs : noStars (e :: es) = true) :
    PE X (.Call (.Name x p) (e :: es) [] pos) (tE X.K ca W fun env M => (fs env M).bind fun xs M => lift (gb M xs) M) := by
  obtain ⟨s1, s2⟩ := noStars_cons hs
  refine pe_imp (pe_callTy hc hg hm hv ha hn hdb (star_cons s1) (no_star_any s2)) fun σ H Q ⟨p, F, env, M, rm, re, q⟩ => ?_
  refine ⟨p, F, env, M, rm, re, (q.bind (rel1 := Rels X.K)).imp fun xs H1 ⟨p1, F1, M1, ds, s1, rm1, r1, q1⟩ => ?_⟩
  obtain ⟨r, e1, q3⟩ := q1.lift_
  exact ⟨p1, F1, M1, ds, r, rm1, r1, e1, q3⟩

/-! ### defs -/
/-- what a def of the table promises -/
def spF (K : PySem.W.Frag) (ca : Nat → Addr) (cl : Calls) (f : Nat) : Sp := fun vs H Q E => ∃ p F M ds r, RM K p F M H ∧ Rels K p F vs ds ∧ cl f ds M = some r ∧ match r with
  | .ok d M' => ∀ p' F' H' v, Step p F H p' F' H' → RM K p' F' M' H' → Rel K p' F' v d → Q v H'
  | .er x M' => ∀ p' F' H' cls dd, Step p F H p' F' H' → RM K p' F' M' H' → ExcR K ca p' F' H' x cls dd → E cls dd H'
theorem spF_of {K : PySem.W.Frag} {cl : Calls} {i : Nat} {σ : L2.St} {p : Ph} {F H : Hp} {M : Mem} {vs : List V} {ds : List D} {Q : VK} (rm : RM K p F M H) (r : Rels K p F vs ds) (h : At K ca W σ (Rel K) p F H (cl i ds M) Q) :
    spF K ca cl i vs H Q (WE W σ) := by
  obtain ⟨r', e, h⟩ := h
  exact ⟨p, F, M, ds, r', rm, r, e, by cases r' <;> exact h⟩
theorem e_call {cl : Calls} {i k : Nat} {adr : Addr} {fd : FuncData} {ps : List Str} {dvs : List V} {ds : List Value} {dds : List D} {x : Str} {p : Pos}
    (F : FnOk X.prog X.w X.K X.mg X.base (L2.CX X.prog X.w) k adr fd ps (spF X.K ca cl i)) (hr : Room k X.A) (hg : Gl X x) (hm : X.mg x = some (.ref adr)) (hk : PySem.W.keepIn X.K (.ref adr) = true) (hb : Binds X.K fd ps ds) (hd : Vals dvs ds)
    (hdd : ∀ p F, Rels X.K p F dvs dds) (tk : Takes X W) (ha : PA X (e :: es) (tEs X.K ca W fs)) (hdb : (x == ("__debug__" : Str)) = false) (hs : noStars (e :: es) = true) :
    PE X (.Call (.Name x p) (e :: es) [] pos) (tE X.K ca W fun env M => (fs env M).bind fun xs M => cl i (xs ++ dds) M) := by
  obtain ⟨s1, s2⟩ := noStars_cons hs
  refine pe_imp (pe_callSD F hr hg hm hk hb hd (fun σ => passAt tk σ) ha hdb (star_cons s1) (no_star_any s2)) fun σ H Q ⟨p, F, env, M, rm, re, q⟩ => ?_
  exact ⟨p, F, env, M, rm, re, (q.bind (rel1 := Rels X.K)).imp fun xs H1 ⟨p1, F1, M1, ds, s1, rm1, r1, q1⟩ => spF_of rm1 (r1.append (hdd p1 F1)) q1⟩
theorem e_call0 {cl : Calls} {i k : Nat} {adr : Addr} {fd : FuncData} {ps : List Str} {dvs : List V} {ds : List Value} {dds : List D} {x : Str} {p : Pos}
    (F : FnOk X.prog X.w X.K X.mg X.base (L2.CX X.prog X.w) k adr fd ps (spF X.K ca cl i)) (hr : Room k X.A) (hg : Gl X x) (hm : X.mg x = some (.ref adr)) (hk : PySem.W.keepIn X.K (.ref adr) = true) (hb : Binds X.K fd ps ds) (hd : Vals dvs ds)
    (hdd : ∀ p F, Rels X.K p F dvs dds) (tk : Takes X W) (hdb : (x == ("__debug__" : Str)) = false) :
    PE X (.Call (.Name x p) [] [] pos) (tE X.K ca W fun _ M => cl i ([] ++ dds) M) := by
  refine ⟨fun pins s σ H Q I ⟨p, F1, env, M, rm, re, q⟩ => ?_⟩
  refine wpAny_Call_Name_kw (ld_glob I hg hm ?_ hdb)
  refine PySem.W.callWith_K0 I.kIn hk ?_
  exact run_fnSD (us := []) (vs := []) (E := WE W) F hr hb hd (passAt tk σ) I .nil (spF_of rm (hdd p F1) q)
end
end Rf
end T_RfExpr2
section T_RfExpr3
set_option Elab.async false
set_option linter.all false
set_option maxRecDepth 100000
set_option maxHeartbeats 1000000
/-! Rf: slices, methods, isinstance, ranges -/
namespace Rf
open PySem PySem.Spec PyProof.Rows L2
section
variable {X : Cx} {ca : Nat → Addr} {W : WX} {e a b c : Expr} {es : List Expr} {f g h : Rf.Env → Mem → Res D} {fs : Rf.Env → Mem → Res (List D)} {fo fo' : Rf.Env → Mem → Res (Option Int)} {pos : Pos}
theorem sl_D : SlR X (rSl X.K) := by
  intro pins s σ H x v vl vu lo hi sl Q I rx hs pl pu h
  obtain ⟨p, F, M, d, r, rm, r1, he, q⟩ := h
  cases r1 with
  | lst h1 s1 =>
    cases he
    exact sl_list pins s σ H _ v vl vu lo hi sl Q I rx hs pl pu ⟨_, _, rfl, .inl (.inl (rm.fro _ _ h1)), fun z hz => new_lst rm hz (s1.cutD lo hi) q⟩
  | tup h1 s1 =>
    cases he
    refine sl_tupA pins s σ H _ v vl vu lo hi sl Q I rx hs pl pu ⟨_, _, rfl, h1.sq rm, fun z => ?_, fun _ w hw => new_tup rm hw (s1.cutD lo hi) q⟩
    refine q _ _ _ _ (Step.refl ..) rm (.tup h1 ?_)
    have s2 := s1.cutD lo hi
    unfold cutV at s2
    rw [z.1, z.2, List.drop_zero, Nat.sub_zero, List.take_length] at s2
    exact s2
  | @str z =>
    have he : (if z.length ≤ sizeLine then some (D.str ⟨(Rf.cutD z.cps.toList lo hi).toArray⟩) else none) = some r := he
    split at he
    · rename_i hl
      cases he
      have e : (⟨(Rf.cutD z.cps.toList lo hi).toArray⟩ : Str) = cutS z lo hi := by
        unfold Rf.cutD cutS
        rw [Array.length_toList]
        rfl
      rw [e] at q
      exact sl_str pins s σ H _ v vl vu lo hi sl Q I rx hs pl pu ⟨z, rfl, hl, q _ _ _ _ (Step.refl ..) rm (.str _)⟩
    · cases he
  | _ => cases he
abbrev eqO : Ph → Hp → Option Int → Option Int → Prop := fun _ _ b d => b = d
abbrev tO (K : PySem.W.Frag) (ca : Nat → Addr) (W : WX) (f : Rf.Env → Mem → Res (Option Int)) : TO := tG K ca W eqO f
theorem po_imp {eo : Option Expr} {t t' : TO} (h : PO X eo t) (i : ∀ σ H Q, t' σ H Q → t σ H Q) : PO X eo t' := ⟨fun pins s σ H Q I q => h.run pins s σ H Q I (i σ H Q q)⟩
theorem o_no : PO X none (tO X.K ca W fun _ M => ok none M) := po_imp po_none fun σ H Q ⟨p, F, env, M, rm, re, q⟩ => q.ok_ rm rfl
theorem o_at (ha : PE X a (tE X.K ca W f)) : PO X (some a) (tO X.K ca W fun env M => (f env M).bind fun x M => someI x M) := by
  refine po_imp (po_some ha) fun σ H Q ⟨p, F, env, M, rm, re, q⟩ => ?_
  refine ⟨p, F, env, M, rm, re, (q.bind (rel1 := Rel X.K)).imp fun x H1 ⟨p1, F1, M1, d, s1, rm1, r1, q1⟩ => ?_⟩
  cases r1 with
  | int i => exact ⟨i, rfl, q1.ok_ rm1 rfl⟩
  | _ => obtain ⟨r, e, _⟩ := q1; cases e
theorem e_slc {lo hi : Option Expr} {p2 : Pos} (ha : PE X a (tE X.K ca W f)) (hl : PO X lo (tO X.K ca W fo)) (hh : PO X hi (tO X.K ca W fo')) :
    PE X (.Subscript a (.Slice lo hi none p2) pos) (tE X.K ca W fun env M => (f env M).bind fun x M => (fo env M).bind fun l M => (fo' env M).bind fun u M => lift (eSlc x l u) M) := by
  refine pe_imp (pe_slice sl_D ha hl hh) fun σ H Q ⟨p, F, env, M, rm, re, q⟩ => ?_
  refine ⟨p, F, env, M, rm, re, q.bind.imp fun x H1 ⟨p1, F1, M1, d, s1, rm1, r1, q1⟩ => ?_⟩
  refine ⟨p1, F1, env, M1, rm1, re.mono s1.toLe, (q1.bind (rel1 := eqO)).imp fun l H2 ⟨p2, F2, M2, l', s2, rm2, r2, q2⟩ => ?_⟩
  refine ⟨p2, F2, env, M2, rm2, (re.mono s1.toLe).mono s2.toLe, (q2.bind (rel1 := eqO)).imp fun u H3 ⟨p3, F3, M3, u', s3, rm3, r3, q3⟩ => ?_⟩
  cases r2
  cases r3
  obtain ⟨r, e1, q4⟩ := q3.lift_
  exact ⟨p3, F3, M3, d, r, rm3, (r1.mono s2.toLe).mono s3.toLe, e1, q4⟩
theorem At.move {K : PySem.W.Frag} {α β : Type} {rel : Ph → Hp → β → α → Prop} {σ : L2.St} {p p1 : Ph} {F H F1 H1 : Hp} {r : Res α} {Q : β → Hp → Prop} (s : Step p F H p1 F1 H1) (h : At K ca W σ rel p F H r Q) : At K ca W σ rel p1 F1 H1 r Q := by
  obtain ⟨r', e, h⟩ := h
  refine ⟨r', e, ?_⟩
  cases r' with
  | ok a M => exact fun p' F' H' v s2 => h p' F' H' v (s.trans s2)
  | er x M => exact fun p' F' H' c d s2 => h p' F' H' c d (s.trans s2)
/-- where the receiver of a method is no call of super -/
def plainRecv : Expr → Bool
  | .Name _ _ => true
  | .Constant _ _ _ => true
  | .Subscript _ _ _ => true
  | _ => false
theorem base_of {o : Expr} {m : Str} {env : PySem.Env} (h : plainRecv o = true) : attributeBase o m env (eval o env) = eval o env := by
  cases o <;> first | (cases h; done) | rfl
theorem lift_some {σ : L2.St} {K : PySem.W.Frag} {α β γ : Type} {rel : Ph → Hp → β → α → Prop} {p : Ph} {F H : Hp} {o : Option γ} {M : Mem} {k : γ → Mem → Res α} {Q : β → Hp → Prop} (h : At K ca W σ rel p F H ((lift o M).bind k) Q) :
    ∃ z, o = some z ∧ At K ca W σ rel p F H (k z M) Q := by
  cases o with
  | none => obtain ⟨r, e, _⟩ := h; cases e
  | some z => exact ⟨z, rfl, h⟩
theorem e_m1 {bi : Bi} {id : String} {name : Str} {apos : Pos} {gb : List D → Option D} (hb : ∀ M, eBi M bi = gb) (slot : Slot "str" name id) (hty : typeOf (.builtin id) = pure (.type "method_descriptor"))
    (hm : MtR X id (fun x xs => rA X.K (fun _ => gb) (x :: xs))) (hr : ∀ M x, recv M bi x = some () → ∃ z, x = .str z)
    (ha : PE X a (tE X.K ca W f)) (hes : PE X e (tE X.K ca W g)) (hs : isStar e = false) (hp : plainRecv a = true) (hl : (apos.endLine == pos.line) = true) :
    PE X (.Call (.Attribute a name apos) [e] [] pos) (tE X.K ca W fun env M => (f env M).bind fun x M => (lift (recv M bi x) M).bind fun _ M => ((g env M).bind fun y M => (ok [] M).bind fun ys M => ok (y :: ys) M).bind fun xs M => lift (eBi M bi (x :: xs)) M) := by
  refine pe_imp (pe_m1 slot hty hm ha hes (by rw [star_cons hs]; rfl) (base_of hp) hl) fun σ H Q ⟨p, F, env, M, rm, re, q⟩ => ?_
  refine ⟨p, F, env, M, rm, re, q.bind.imp fun x H1 ⟨p1, F1, M1, d, s1, rm1, r1, q1⟩ => ?_⟩
  obtain ⟨z, e1, q2⟩ := lift_some q1
  obtain ⟨w, e2⟩ := hr M1 d e1
  subst e2
  cases r1
  refine ⟨⟨w, rfl⟩, p1, F1, env, M1, rm1, re.mono s1.toLe, ?_⟩
  refine ((q2.bind (rel1 := Rels X.K)).bind (rel1 := Rel X.K) (Q := fun vs H2 => ∃ p1' F1' M1' d, Step p1 F1 H1 p1' F1' H2 ∧ RM X.K p1' F1' M1' H2 ∧ Rels X.K p1' F1' vs d ∧ At X.K ca W σ (Rel X.K) p1' F1' H2 (lift (eBi M1' bi (.str w :: d)) M1') Q)).imp fun y H2 ⟨p2, F2, M2, e, s2, rm2, r2, q3⟩ => ?_
  have q4 := (At.ok_ (v := [y]) rm2 q3 (.cons r2 .nil))
  obtain ⟨p3, F3, M3, ds, s3, rm3, r3, q5⟩ := q4
  obtain ⟨r, e5, q6⟩ := q5.lift_
  rw [hb] at e5
  exact ⟨p3, F3, M3, _, r, rm3, .cons (.str w) r3, e5, q6⟩
theorem e_m0 {bi : Bi} {id : String} {name : Str} {apos : Pos} {gb : List D → Option D} (hb : ∀ M, eBi M bi = gb) (slot : Slot "str" name id) (hty : typeOf (.builtin id) = pure (.type "method_descriptor"))
    (hm : MtR X id (fun x xs => rA X.K (fun _ => gb) (x :: xs))) (hr : ∀ M x, recv M bi x = some () → ∃ z, x = .str z)
    (ha : PE X a (tE X.K ca W f)) (hp : plainRecv a = true) (hl : (apos.endLine == pos.line) = true) :
    PE X (.Call (.Attribute a name apos) [] [] pos) (tE X.K ca W fun env M => (f env M).bind fun x M => (lift (recv M bi x) M).bind fun _ M => (ok [] M).bind fun xs M => lift (eBi M bi (x :: xs)) M) := by
  refine pe_imp (pe_m0 slot hty hm ha (base_of hp) hl) fun σ H Q ⟨p, F, env, M, rm, re, q⟩ => ?_
  refine ⟨p, F, env, M, rm, re, q.bind.imp fun x H1 ⟨p1, F1, M1, d, s1, rm1, r1, q1⟩ => ?_⟩
  obtain ⟨z, e1, q2⟩ := lift_some q1
  obtain ⟨w, e2⟩ := hr M1 d e1
  subst e2
  cases r1
  have q3 : At X.K ca W σ (Rel X.K) p1 F1 H1 (lift (eBi M1 bi [.str w]) M1) Q := q2
  obtain ⟨r, e5, q6⟩ := q3.lift_
  rw [hb] at e5
  exact ⟨⟨w, rfl⟩, p1, F1, M1, _, r, rm1, .cons (.str w) .nil, e5, q6⟩
/-- d.get(k, x) -/
theorem m2_of {o e h : Expr} {m : Str} {apos cpos : Pos} (hp : plainRecv o = true) (h1 : isStar e = false) (h2 : isStar h = false) (hl : (apos.endLine == cpos.line) = true) : M2 X o m apos e h cpos := by
  have e1 : starEach [e, h] X.env = [(false, eval e X.env), (false, eval h X.env)] := by rw [star_cons h1, star_cons h2]; rfl
  exact ⟨base_of hp, by rw [e1]; rfl, hl, by rw [e1]; rfl⟩
theorem e_get2 {e1 e2 : Expr} {apos : Pos} (hu : X.A.units + 1 < cLine) (ha : PE X a (tE X.K ca W f)) (h1 : PE X e1 (tE X.K ca W g)) (h2 : PE X e2 (tE X.K ca W h)) (s1 : isStar e1 = false) (s2 : isStar e2 = false) (hp : plainRecv a = true) (hl : (apos.endLine == pos.line) = true) :
    PE X (.Call (.Attribute a "get" apos) [e1, e2] [] pos) (tE X.K ca W fun env M => (f env M).bind fun x M => (lift (recv M .get2 x) M).bind fun _ M => ((g env M).bind fun y M => ((h env M).bind fun z M => (ok [] M).bind fun zs M => ok (z :: zs) M).bind fun ys M => ok (y :: ys) M).bind fun xs M => lift (eBi M .get2 (x :: xs)) M) := by
  refine pe_imp (pe_dget2 hu ha h1 h2 (m2_of hp s1 s2 hl)) fun σ H Q ⟨p, F, env, M, rm, re, q⟩ => ?_
  refine ⟨p, F, env, M, rm, re, q.bind.imp fun x H1 ⟨p1, F1, M1, d, st1, rm1, r1, q1⟩ => ?_⟩
  obtain ⟨z, e9, q2⟩ := lift_some q1
  have dic : ∃ a, x = .ref a ∧ IsD H1 a := by
    have e9 : (dicOf M1 d).map (fun _ => ()) = some z := e9
    cases q9 : dicOf M1 d with
    | none => rw [q9] at e9; cases e9
    | some kx =>
      have q8 : eGet M1 d (.int 0) = some (lookD kx.1 kx.2 (.inl 0)) := by unfold eGet; rw [q9]; rfl
      obtain ⟨a, ov, e1, _, e2, _⟩ := get_of rm1 r1 (Rel.int 0) q8
      exact ⟨a, e1, e2⟩
  obtain ⟨a, rfl, isd⟩ := dic
  refine ⟨a, rfl, isd, p1, F1, env, M1, rm1, re.mono st1.toLe, ?_⟩
  have q3 := (q2.bind (rel1 := Rels X.K)).bind (rel1 := Rel X.K)
  refine q3.imp fun y H2 ⟨p2, F2, M2, e, st2, rm2, r2, q4⟩ => ?_
  refine ⟨p2, F2, env, M2, rm2, (re.mono st1.toLe).mono st2.toLe, ?_⟩
  have q5 := (q4.bind (rel1 := Rels X.K)).bind (rel1 := Rel X.K)
  refine q5.imp fun w H3 ⟨p3, F3, M3, e', st3, rm3, r3, q6⟩ => ?_
  obtain ⟨p4, F4, M4, ds, st4, rm4, r4, q7⟩ := At.ok_ (v := [w]) rm3 q6 (.cons r3 .nil)
  have r2' := r2.mono st4.toLe
  obtain ⟨p5, F5, M5, ds5, st5, rm5, r5, q8⟩ := At.ok_ (v := y :: [w]) rm4 q7 (.cons r2' r4)
  obtain ⟨r, e6, q10⟩ := q8.lift_
  cases r5 with
  | @cons _ dy _ dr ry rr =>
    obtain ⟨vw, ew, rw'⟩ : ∃ dw, dr = [dw] ∧ Rel X.K p5 F5 w dw := by
      cases rr with
      | cons h r => cases r; exact ⟨_, rfl, h⟩
    subst ew
    have e6 : (eGet M5 d dy).map (fun o => o.getD vw) = some r := e6
    obtain ⟨o, e7, rfl⟩ := map_some e6
    have r1' := r1.mono st5.toLe
    obtain ⟨a', ov, e8, q11, _, q12⟩ := get_of rm5 r1' ry e7
    cases e8
    refine ⟨ov, q11, ?_⟩
    rcases q12 with ⟨e10, e11⟩ | ⟨v, z, e10, e11, r6⟩
    · rw [e10] at q10
      rw [e11]
      exact q10 _ _ _ _ (Step.refl ..) rm5 rw'
    · rw [e10] at q10
      rw [e11]
      exact q10 _ _ _ _ (Step.refl ..) rm5 r6
/-! ### ranges as lists -/
theorem prg_imp {t t' : L2.St → Hp → (Int → Int → Hp → Prop) → Prop} (h : PRg X e t) (i : ∀ σ H Q, t' σ H Q → t σ H Q) : PRg X e t' := fun pins s σ H Q I q => h pins s σ H Q I (i σ H Q q)
theorem rels_range {K : PySem.W.Frag} {p : Ph} {F : Hp} (lo hi : Int) : Rels K p F (rgV lo hi) (rangeD lo hi) := by
  unfold rgV rangeD
  induction (List.range (hi - lo).toNat) with
  | nil => exact .nil
  | cons x l ih => exact .cons (.int _) ih
theorem e_rngL {x y : Str} {p q pos2 : Pos} (hc : X.calm = true) (hg : Gl X "list") (hm : X.mg "list" = none) (hg2 : Gl X "range") (hm2 : X.mg "range" = none) (ha : PE X a (tE X.K ca W f)) (hs : isStar a = false) :
    PE X (.Call (.Name "list" p) [.Call (.Name "range" q) [a] [] pos2] [] pos) (tE X.K ca W fun env M => (f env M).bind fun x M => lift (bRange1 [x]) M) := by
  refine pe_imp (pe_listRg hc hg hm (prg_1 hg2 hm2 ha (star_cons hs))) fun σ H Q ⟨p, F, env, M, rm, re, q⟩ => ?_
  refine ⟨p, F, env, M, rm, re, q.bind.imp fun x H1 ⟨p1, F1, M1, d, s1, rm1, r1, q1⟩ => ?_⟩
  obtain ⟨r, e1, q4⟩ := q1.lift_
  cases r1 with
  | int n =>
    have e1 : (if small62 n = true ∧ n ≤ 1000 then some (D.lst (rangeD 0 n)) else none) = some r := e1
    split at e1
    · rename_i hn
      cases e1
      have h1 := hn.1
      unfold small62 at h1
      rw [Bool.and_eq_true] at h1
      have h2 := of_decide_eq_true h1.1
      have h3 := of_decide_eq_true h1.2
      exact ⟨n, rfl, ⟨by omega, by omega, h2, h3, by have := hn.2; omega⟩, fun z hz => new_lst rm1 hz (rels_range 0 n) q4⟩
    · cases e1
  | _ => cases e1
theorem e_rngL2 {p q pos2 : Pos} (hc : X.calm = true) (hg : Gl X "list") (hm : X.mg "list" = none) (hg2 : Gl X "range") (hm2 : X.mg "range" = none) (ha : PE X a (tE X.K ca W f)) (hb : PE X b (tE X.K ca W g)) (hs : isStar a = false) (hs2 : isStar b = false) :
    PE X (.Call (.Name "list" p) [.Call (.Name "range" q) [a, b] [] pos2] [] pos) (tE X.K ca W fun env M => (f env M).bind fun x M => (g env M).bind fun y M => lift (bRange2 [x, y]) M) := by
  refine pe_imp (pe_listRg hc hg hm (prg_2 hg2 hm2 ha hb (star_cons hs) (star_cons hs2) (by rw [star_cons hs2]; rfl))) fun σ H Q ⟨p, F, env, M, rm, re, q⟩ => ?_
  refine ⟨p, F, env, M, rm, re, q.bind.imp fun x H1 ⟨p1, F1, M1, d, s1, rm1, r1, q1⟩ => ?_⟩
  refine ⟨p1, F1, env, M1, rm1, re.mono s1.toLe, q1.bind.imp fun y H2 ⟨p2, F2, M2, e, s2, rm2, r2, q2⟩ => ?_⟩
  obtain ⟨r, e1, q4⟩ := q2.lift_
  have r1 := r1.mono s2.toLe
  cases r1 with
  | int m =>
    cases r2 with
    | int n =>
      have e1 : (if small62 m = true ∧ small62 n = true ∧ n - m ≤ 1000 then some (D.lst (rangeD m n)) else none) = some r := e1
      split at e1
      · rename_i hn
        cases e1
        obtain ⟨h1, h2, h3⟩ := hn
        unfold small62 at h1 h2
        rw [Bool.and_eq_true] at h1 h2
        exact ⟨m, n, rfl, rfl, ⟨of_decide_eq_true h1.1, of_decide_eq_true h1.2, of_decide_eq_true h2.1, of_decide_eq_true h2.2, by omega⟩, fun z hz => new_lst rm2 hz (rels_range m n) q4⟩
      · cases e1
    | _ => cases e1
  | _ => cases e1
/-! ### isinstance -/
def tyName : Ty → String
  | .int => "int" | .bool => "bool" | .str => "str" | .tuple => "tuple" | .list => "list"
/-- the model's own answers for the five types -/
theorem isi_kit (K : PySem.W.Frag) (t : Ty) : PySem.W.kitOne K (.type "NoneType") (.type (tyName t)) = some false ∧
    PySem.W.kitOne K (.type "bool") (.type (tyName t)) = some (decide (t = .bool ∨ t = .int)) ∧ PySem.W.kitOne K (.type "int") (.type (tyName t)) = some (decide (t = .int)) ∧
    PySem.W.kitOne K (.type "str") (.type (tyName t)) = some (decide (t = .str)) ∧ PySem.W.kitOne K (.type "list") (.type (tyName t)) = some (decide (t = .list)) ∧
    PySem.W.kitOne K (.type "tuple") (.type (tyName t)) = some (decide (t = .tuple)) ∧ PySem.W.kitOne K (.type "dict") (.type (tyName t)) = some false := by
  cases t <;> refine ⟨?_, ?_, ?_, ?_, ?_, ?_, ?_⟩ <;> first | rfl | decide +kernel
theorem isi_of {K : PySem.W.Frag} {p : Ph} {F H : Hp} {M : Mem} {x : V} {d : D} {t : Ty} {k : Bool} (rm : RM K p F M H) (r : Rel K p F x d) (h : isTy t d = some k) :
    ∃ u, TyX K H x u ∧ PySem.W.kitOne K u (.type (tyName t)) = some k := by
  obtain ⟨k1, k2, k3, k4, k5, k6, k7⟩ := isi_kit K t
  cases r with
  | non => exact ⟨_, .base .non, by rw [k1]; cases t <;> exact h⟩
  | bl b => exact ⟨_, .base (.bl b), by rw [k2]; cases t <;> exact h⟩
  | int b => exact ⟨_, .base (.int b), by rw [k3]; cases t <;> exact h⟩
  | str b => exact ⟨_, .base (.str b), by rw [k4]; cases t <;> exact h⟩
  | lst h1 s1 => exact ⟨_, .base (.lst (rm.fro _ _ h1)), by rw [k5]; cases t <;> exact h⟩
  | tup h1 s1 =>
    rcases h1 with h1 | ⟨o, its, n, e1, e2, _⟩
    · exact ⟨_, .base (.tup (rm.fro _ _ h1)), by rw [k6]; cases t <;> exact h⟩
    · exact ⟨_, .kTuple e1 e2, by rw [k6]; cases t <;> exact h⟩
  | dic h1 _ s1 =>
    rcases h1 with h1 | ⟨o, h1⟩
    · exact ⟨_, .base (.dK (rm.fro _ _ h1)), by rw [k7]; cases t <;> exact h⟩
    · exact ⟨_, .fDict (rm.fro _ _ h1), by rw [k7]; cases t <;> exact h⟩
  | cell _ => cases t <;> cases h
  | scr _ => cases t <;> cases h
  | exn _ => cases t <;> cases h
  | exl _ _ => cases t <;> cases h
def tyStr (t : Ty) : Str := Str.ofString (tyName t)
theorem boot_ty (t : Ty) : bootBuiltins (tyStr t) = some (.type (tyName t)) := by cases t <;> decide +kernel
theorem e_isi {t : Ty} {p q : Pos} {x : Str} (hx : x = tyStr t) (hg : Gl X "isinstance") (hm : X.mg "isinstance" = none) (hg2 : Gl X x) (hm2 : X.mg x = none) (ha : PE X a (tE X.K ca W f)) (hs : isStar a = false) :
    PE X (.Call (.Name "isinstance" p) [a, .Name x q] [] pos) (tE X.K ca W fun env M => (f env M).bind fun x M => lift ((isTy t x).map .bl) M) := by
  subst hx
  have hn : tyStr t ≠ "__name__" := by cases t <;> decide
  have hd : (tyStr t == ("__debug__" : Str)) = false := by cases t <;> decide
  have h2 : PE X (.Name (tyStr t) q) (tC (.ty (tyName t))) := pe_bltn hg2 hm2 (boot_ty t) rfl hn hd
  refine pe_imp (pe_callB call_isi hg hm (by decide +kernel) (pa_cons ha (pa_cons h2 pa_nil rfl) (star_cons hs)) (by decide) (by decide) (star_cons hs) rfl) fun σ H Q ⟨p, F, env, M, rm, re, q⟩ => ?_
  refine ⟨p, F, env, M, rm, re, q.bind.imp fun x H1 ⟨p1, F1, M1, d, s1, rm1, r1, q1⟩ => ?_⟩
  obtain ⟨r, e1, q4⟩ := q1.lift_
  obtain ⟨k, e2, rfl⟩ := map_some e1
  obtain ⟨u, t1, t2⟩ := isi_of rm1 r1 e2
  exact ⟨x, .ty (tyName t), u, .type (tyName t), k, rfl, .ty _, t1, t2, q4 _ _ _ _ (Step.refl ..) rm1 (.bl k)⟩
end
end Rf
end T_RfExpr3
section T_RfIter
set_option Elab.async false
set_option linter.all false
set_option maxRecDepth 100000
set_option maxHeartbeats 1000000
/-! Rf: what is walked; targets -/
namespace Rf
open PySem PySem.Spec PyProof.Rows L2
/-- the walk of known items -/
structure Wk (K : PySem.W.Frag) (p : Ph) (F : Hp) (J : It) (ds : List D) : Prop where
  go : ∀ p' F' H' M' i x, Le p F p' F' → RM K p' F' M' H' → ds[i]? = some x → J.go i H' ∧ ∀ v H2, J.yld i H' v H2 → ∃ F2, Step p' F' H' p' F2 H2 ∧ RM K p' F2 M' H2 ∧ Rel K p' F2 v x
  stop : ∀ p' F' H' M', Le p F p' F' → RM K p' F' M' H' → J.stop ds.length H'
theorem Wk.mono {K : PySem.W.Frag} {p p1 : Ph} {F F1 : Hp} {J : It} {ds : List D} (w : Wk K p F J ds) (l : Le p F p1 F1) : Wk K p1 F1 J ds :=
  ⟨fun p' F' H' M' i x l' => w.go p' F' H' M' i x (l.trans l'), fun p' F' H' M' l' => w.stop p' F' H' M' (l.trans l')⟩
section
variable {K : PySem.W.Frag} {p : Ph} {F : Hp}
theorem wk_list {a : Addr} {xs : List V} {ds : List D} (h : F a = some (.lst xs)) (r : Rels K p F xs ds) : Wk K p F (Itl K a) ds := by
  refine ⟨fun p' F' H' M' i x l rm e => ?_, fun p' F' H' M' l rm => ?_⟩
  · obtain ⟨v, h1, h2⟩ := r.get e
    have q : SqL K H' a xs := .inl (.inl (rm.fro _ _ (l.lst _ _ h)))
    refine ⟨⟨xs, v, q, h1⟩, fun w H2 ⟨e1, e2⟩ => ?_⟩
    subst e1
    have e3 := e2 xs q
    rw [h1] at e3; cases e3
    exact ⟨F', Step.refl .., rm, h2.mono l⟩
  · exact ⟨xs, .inl (.inl (rm.fro _ _ (l.lst _ _ h))), by rw [r.length]; exact Nat.le_refl _⟩
theorem wk_tup {a : Addr} {xs : List V} {ds : List D} (h : TupAt K F a xs) (r : Rels K p F xs ds) : Wk K p F (Itt K a) ds := by
  refine ⟨fun p' F' H' M' i x l rm e => ?_, fun p' F' H' M' l rm => ?_⟩
  · obtain ⟨v, h1, h2⟩ := r.get e
    have q : SqT K H' a xs := (h.mono l).sq rm
    refine ⟨⟨xs, v, q, h1⟩, fun w H2 ⟨e1, e2⟩ => ?_⟩
    subst e1
    have e3 := e2 xs q
    rw [h1] at e3; cases e3
    exact ⟨F', Step.refl .., rm, h2.mono l⟩
  · exact ⟨xs, (h.mono l).sq rm, by rw [r.length]; exact Nat.le_refl _⟩
theorem rangeD_len (lo hi : Int) : (rangeD lo hi).length = (hi - lo).toNat := by unfold rangeD; rw [List.length_map, List.length_range]
theorem rangeD_get {lo hi : Int} {i : Nat} {x : D} (h : (rangeD lo hi)[i]? = some x) : i < (hi - lo).toNat ∧ x = .int (lo + (i : Nat)) := by
  unfold rangeD at h
  rw [List.getElem?_map] at h
  by_cases hi' : i < (hi - lo).toNat
  · rw [List.getElem?_range hi'] at h
    cases h
    exact ⟨hi', rfl⟩
  · rw [List.getElem?_eq_none (by rw [List.length_range]; omega)] at h
    cases h
theorem wk_rng (lo hi : Int) : Wk K p F (Itr lo (hi - lo).toNat) (rangeD lo hi) := by
  refine ⟨fun p' F' H' M' i x l rm e => ?_, fun p' F' H' M' l rm => ?_⟩
  · obtain ⟨h1, rfl⟩ := rangeD_get e
    refine ⟨h1, fun v H2 ⟨e1, e2⟩ => ?_⟩
    subst e1 e2
    exact ⟨F', Step.refl .., rm, .int _⟩
  · show (hi - lo).toNat ≤ _
    rw [rangeD_len]; exact Nat.le_refl _
theorem enumD_len : ∀ (xs : List D) (n : Nat), (enumD n xs).length = xs.length
  | [], _ => rfl
  | _ :: xs, n => by unfold enumD; rw [List.length_cons, List.length_cons, enumD_len xs]
theorem enumD_get : ∀ (xs : List D) (n i : Nat) (y : D), (enumD n xs)[i]? = some y → ∃ x, xs[i]? = some x ∧ y = .tup [.int ((n + i : Nat) : Int), x]
  | [], _, _, _, h => by simp [enumD] at h
  | x :: xs, n, 0, y, h => by
    simp [enumD] at h
    exact ⟨x, rfl, h.symm⟩
  | x :: xs, n, i + 1, y, h => by
    have h : (enumD (n + 1) xs)[i]? = some y := by simpa [enumD] using h
    obtain ⟨z, h1, h2⟩ := enumD_get xs (n + 1) i y h
    refine ⟨z, by simpa using h1, ?_⟩
    rw [h2]
    have : n + 1 + i = n + (i + 1) := by omega
    rw [this]
theorem wk_enum {a : Addr} {xs : List V} {ds : List D} (h : F a = some (.lst xs)) (r : Rels K p F xs ds) : Wk K p F (Ite K a) (enumD 0 ds) := by
  refine ⟨fun p' F' H' M' i y l rm e => ?_, fun p' F' H' M' l rm => ?_⟩
  · obtain ⟨x, e0, rfl⟩ := enumD_get _ _ _ _ e
    obtain ⟨v, h1, h2⟩ := r.get e0
    have q : SqL K H' a xs := .inl (.inl (rm.fro _ _ (l.lst _ _ h)))
    refine ⟨⟨xs, v, q, h1⟩, fun w H2 ⟨T, x', e1, e2, e3, e4⟩ => ?_⟩
    have e5 := e4 xs q
    rw [h1] at e5; cases e5
    subst e1 e3
    refine ⟨_, step_new rm e2, rm_new rm e2, .tup (.inl upd_same) (.cons ?_ (.cons ((h2.mono l).mono (le_new (rm.free e2))) .nil))⟩
    rw [Nat.zero_add]
    exact .int _
  · rw [enumD_len]
    exact ⟨xs, .inl (.inl (rm.fro _ _ (l.lst _ _ h))), by rw [r.length]; exact Nat.le_refl _⟩
theorem zipD_len : ∀ (xs ys : List D), (zipD xs ys).length = min xs.length ys.length
  | [], _ => by simp [zipD]
  | _ :: _, [] => by simp [zipD]
  | _ :: xs, _ :: ys => by simp [zipD, zipD_len xs ys]
theorem zipD_get : ∀ (xs ys : List D) (i : Nat) (z : D), (zipD xs ys)[i]? = some z → ∃ x y, xs[i]? = some x ∧ ys[i]? = some y ∧ z = .tup [x, y]
  | [], _, _, _, h => by simp [zipD] at h
  | _ :: _, [], _, _, h => by simp [zipD] at h
  | x :: xs, y :: ys, 0, z, h => by
    simp [zipD] at h
    exact ⟨x, y, rfl, rfl, h.symm⟩
  | x :: xs, y :: ys, i + 1, z, h => by
    have h : (zipD xs ys)[i]? = some z := by simpa [zipD] using h
    obtain ⟨a, b, h1, h2, h3⟩ := zipD_get xs ys i z h
    exact ⟨a, b, by simpa using h1, by simpa using h2, h3⟩
theorem wk_zip {a b : Addr} {xs ys : List V} {ds es : List D} (h : F a = some (.lst xs)) (r : Rels K p F xs ds) (h' : F b = some (.lst ys)) (r' : Rels K p F ys es) : Wk K p F (Itz K a b) (zipD ds es) := by
  refine ⟨fun p' F' H' M' i z l rm e => ?_, fun p' F' H' M' l rm => ?_⟩
  · obtain ⟨x, y, e0, e0', rfl⟩ := zipD_get _ _ _ _ e
    obtain ⟨v, h1, h2⟩ := r.get e0
    obtain ⟨v', h1', h2'⟩ := r'.get e0'
    have q : SqL K H' a xs := .inl (.inl (rm.fro _ _ (l.lst _ _ h)))
    have q' : SqL K H' b ys := .inl (.inl (rm.fro _ _ (l.lst _ _ h')))
    refine ⟨⟨xs, ys, v, v', q, q', h1, h1'⟩, fun w H2 ⟨T, x', y', e1, e2, e3, e4, e4'⟩ => ?_⟩
    have e5 := e4 xs q
    rw [h1] at e5; cases e5
    have e5' := e4' ys q'
    rw [h1'] at e5'; cases e5'
    subst e1 e3
    exact ⟨_, step_new rm e2, rm_new rm e2, .tup (.inl upd_same) (.cons ((h2.mono l).mono (le_new (rm.free e2))) (.cons ((h2'.mono l).mono (le_new (rm.free e2))) .nil))⟩
  · rw [zipD_len]
    refine ⟨xs, ys, .inl (.inl (rm.fro _ _ (l.lst _ _ h))), .inl (.inl (rm.fro _ _ (l.lst _ _ h'))), ?_⟩
    rw [r.length, r'.length]; omega
theorem wk_zipT {a b : Addr} {xs ys : List V} {ds es : List D} (h : TupAt K F a xs) (r : Rels K p F xs ds) (h' : TupAt K F b ys) (r' : Rels K p F ys es) : Wk K p F (RZ.ItzT K a b) (zipD ds es) := by
  refine ⟨fun p' F' H' M' i z l rm e => ?_, fun p' F' H' M' l rm => ?_⟩
  · obtain ⟨x, y, e0, e0', rfl⟩ := zipD_get _ _ _ _ e
    obtain ⟨v, h1, h2⟩ := r.get e0
    obtain ⟨v', h1', h2'⟩ := r'.get e0'
    have q : SqT K H' a xs := (h.mono l).sq rm
    have q' : SqT K H' b ys := (h'.mono l).sq rm
    refine ⟨⟨xs, ys, v, v', q, q', h1, h1'⟩, fun w H2 ⟨T, x', y', e1, e2, e3, e4, e4'⟩ => ?_⟩
    have e5 := e4 xs q
    rw [h1] at e5; cases e5
    have e5' := e4' ys q'
    rw [h1'] at e5'; cases e5'
    subst e1 e3
    exact ⟨_, step_new rm e2, rm_new rm e2, .tup (.inl upd_same) (.cons ((h2.mono l).mono (le_new (rm.free e2))) (.cons ((h2'.mono l).mono (le_new (rm.free e2))) .nil))⟩
  · rw [zipD_len]
    refine ⟨xs, ys, (h.mono l).sq rm, (h'.mono l).sq rm, ?_⟩
    rw [r.length, r'.length]; omega
end
abbrev tI (K : PySem.W.Frag) (ca : Nat → Addr) (W : WX) (f : Rf.Env → Mem → Res (List D)) : TI := tG K ca W (Wk K) f
section
variable {X : Cx} {ca : Nat → Addr} {W : WX} {e a b c tg : Expr} {es : List Expr} {f g h : Rf.Env → Mem → Res D} {fs : Rf.Env → Mem → Res (List D)} {pos : Pos}
theorem pi_imp {t t' : TI} (h : PI X tg e t) (i : ∀ σ H Q, t' σ H Q → t σ H Q) : PI X tg e t' := ⟨fun pins s σ H Q I q => h.run pins s σ H Q I (i σ H Q q)⟩
theorem At.erI {K : PySem.W.Frag} {α β γ δ : Type} {rel : Ph → Hp → β → α → Prop} {rel1 : Ph → Hp → δ → γ → Prop} {σ : L2.St} {p : Ph} {F H : Hp} {x : Exn} {M : Mem} {Q : β → Hp → Prop} {Q' : δ → Hp → Prop}
    (h : At K ca W σ rel p F H (some (.er x M)) Q) : At K ca W σ rel1 p F H (some (.er x M)) Q' := by
  obtain ⟨r, e, h⟩ := h
  cases e
  exact ⟨_, rfl, h⟩
def seqI (x : D) (M : Mem) : Res (List D) := match x with
  | .lst xs => ok xs M
  | .tup xs => ok xs M
  | _ => none
theorem i_seq (he : PE X e (tE X.K ca W f)) : PI X tg e (tI X.K ca W fun env M => (f env M).bind seqI) := by
  refine ⟨fun pins s σ H R I ⟨p, F, env, M, rm, re, q⟩ => ?_⟩
  have q : At X.K ca W σ (Wk X.K) p F H ((f env M).bind seqI) R := q
  cases z : f env M with
  | none => rw [z] at q; obtain ⟨r, e, _⟩ := q; cases e
  | some r =>
    rw [z] at q
    cases r with
    | er x M' =>
      have q : At X.K ca W σ (Wk X.K) p F H (some (.er x M')) R := q
      exact (pi_list he).run pins s σ H R I ⟨p, F, env, M, rm, re, by rw [z]; exact q.erI⟩
    | ok d M' =>
      have q : At X.K ca W σ (Wk X.K) p F H (seqI d M') R := q
      cases d with
      | lst xs =>
        obtain ⟨r, e, q⟩ := q
        cases e
        have q1 : At X.K ca W σ (Rel X.K) p F H (f env M) (fun v H1 => ∃ a, v = .ref a ∧ (∃ xs, SqL X.K H1 a xs) ∧ R (Itl X.K a) H1) := by
          rw [z]
          refine ⟨_, rfl, fun p' F' H' v s' rm' rel => ?_⟩
          cases rel with
          | lst h1 r1 => exact ⟨_, rfl, ⟨_, .inl (.inl (rm'.fro _ _ h1))⟩, q p' F' H' _ s' rm' (wk_list h1 r1)⟩
        exact (pi_list he).run pins s σ H R I ⟨p, F, env, M, rm, re, q1⟩
      | tup xs =>
        obtain ⟨r, e, q⟩ := q
        cases e
        have q1 : At X.K ca W σ (Rel X.K) p F H (f env M) (fun v H1 => ∃ a, v = .ref a ∧ (∃ xs, SqT X.K H1 a xs) ∧ R (Itt X.K a) H1) := by
          rw [z]
          refine ⟨_, rfl, fun p' F' H' v s' rm' rel => ?_⟩
          cases rel with
          | tup h1 r1 => exact ⟨_, rfl, ⟨_, h1.sq rm'⟩, q p' F' H' _ s' rm' (wk_tup h1 r1)⟩
        exact (pi_tup he).run pins s σ H R I ⟨p, F, env, M, rm, re, q1⟩
      | _ => obtain ⟨r, e, _⟩ := q; cases e
theorem small62_of {i : Int} (h : small62 i = true) : -(2 ^ 62) ≤ i ∧ i < 2 ^ 62 := by
  unfold small62 at h
  rw [Bool.and_eq_true] at h
  exact ⟨of_decide_eq_true h.1, of_decide_eq_true h.2⟩
theorem At.sub {K : PySem.W.Frag} {α β γ : Type} {rel : Ph → Hp → β → α → Prop} {σ : L2.St} {p : Ph} {F H : Hp} {r : α} {M : Mem} {Q : β → Hp → Prop} (h : At K ca W σ rel p F H (ok r M) Q) :
    ∀ p' F' H' v, Step p F H p' F' H' → RM K p' F' M H' → rel p' F' v r → Q v H' := by
  obtain ⟨r, e, h⟩ := h
  cases e
  exact h
def rngI (x : D) (M : Mem) : Res (List D) := match x with
  | .int n => if small62 n then ok (rangeD 0 n) M else none
  | _ => none
theorem i_rng {p : Pos} (hg : Gl X "range") (hm : X.mg "range" = none) (hs : isStar a = false) (ha : PE X a (tE X.K ca W f)) :
    PI X tg (.Call (.Name "range" p) [a] [] pos) (tI X.K ca W fun env M => (f env M).bind rngI) := by
  refine pi_imp (pi_range1 hg hm (pa_cons ha pa_nil (star_cons hs)) (star_cons hs)) fun σ H Q ⟨p, F, env, M, rm, re, q⟩ => ?_
  refine ⟨p, F, env, M, rm, re, q.bind.imp fun x H1 ⟨p1, F1, M1, d, s1, rm1, r1, q1⟩ => ?_⟩
  cases r1 with
  | int n =>
    have q1 : At X.K ca W σ (Wk X.K) p1 F1 H1 (if small62 n = true then ok (rangeD 0 n) M1 else none) Q := q1
    obtain ⟨h1, q2⟩ := q1.cond
    refine ⟨n, rfl, (small62_of h1).1, (small62_of h1).2, ?_⟩
    have w := wk_rng (K := X.K) (p := p1) (F := F1) 0 n
    rw [Int.sub_zero] at w
    exact q2.sub (γ := Nat) _ _ _ _ (Step.refl ..) rm1 w
  | _ => obtain ⟨r, e, _⟩ := q1; cases e
def rngI2 (x y : D) (M : Mem) : Res (List D) := match x, y with
  | .int i, .int j => if small62 i && small62 j then ok (rangeD i j) M else none
  | _, _ => none
theorem i_rng2 {p : Pos} (hg : Gl X "range") (hm : X.mg "range" = none) (hs : isStar a = false) (hs2 : isStar b = false) (ha : PE X a (tE X.K ca W f)) (hb : PE X b (tE X.K ca W g)) :
    PI X tg (.Call (.Name "range" p) [a, b] [] pos) (tI X.K ca W fun env M => (f env M).bind fun x M => (g env M).bind fun y M => rngI2 x y M) := by
  refine pi_imp (pi_range2 hg hm (pa_cons ha (pa_cons hb pa_nil (star_cons hs2)) (star_cons hs)) (by rw [star_cons hs, star_cons hs2]; rfl) (star_cons hs2)) fun σ H Q ⟨p, F, env, M, rm, re, q⟩ => ?_
  refine ⟨p, F, env, M, rm, re, q.bind.imp fun x H1 ⟨p1, F1, M1, d, s1, rm1, r1, q1⟩ => ?_⟩
  refine ⟨p1, F1, env, M1, rm1, re.mono s1.toLe, q1.bind.imp fun y H2 ⟨p2, F2, M2, e, s2, rm2, r2, q2⟩ => ?_⟩
  have r1 := r1.mono s2.toLe
  cases r1 with
  | int m =>
    cases r2 with
    | int n =>
      have q2 : At X.K ca W σ (Wk X.K) p2 F2 H2 (if (small62 m && small62 n) = true then ok (rangeD m n) M2 else none) Q := q2
      obtain ⟨h1, q3⟩ := q2.cond
      rw [Bool.and_eq_true] at h1
      exact ⟨m, n, rfl, ⟨(small62_of h1.1).1, (small62_of h1.1).2, (small62_of h1.2).1, (small62_of h1.2).2⟩, q3.sub (γ := Nat) _ _ _ _ (Step.refl ..) rm2 (wk_rng m n)⟩
    | _ => obtain ⟨r, e, _⟩ := q2; cases e
  | _ => obtain ⟨r, e, _⟩ := q2; cases e
def enumI (x : D) (M : Mem) : Res (List D) := match x with
  | .lst xs => ok (enumD 0 xs) M
  | _ => none
theorem i_enum {p tpos : Pos} {elts : List Expr} {kk : Nat} (hg : Gl X "enumerate") (hm : X.mg "enumerate" = none) (hs : isStar a = false) (ha : PE X a (tE X.K ca W f)) :
    PI X (.Tuple elts kk tpos) (.Call (.Name "enumerate" p) [a] [] pos) (tI X.K ca W fun env M => (f env M).bind enumI) := by
  refine pi_imp (pi_enum hg hm (pa_cons ha pa_nil (star_cons hs)) (star_cons hs)) fun σ H Q ⟨p, F, env, M, rm, re, q⟩ => ?_
  refine ⟨p, F, env, M, rm, re, q.bind.imp fun x H1 ⟨p1, F1, M1, d, s1, rm1, r1, q1⟩ => ?_⟩
  cases r1 with
  | lst h1 r2 => exact ⟨_, _, rfl, .inl (.inl (rm1.fro _ _ h1)), q1.sub (γ := Nat) _ _ _ _ (Step.refl ..) rm1 (wk_enum h1 r2)⟩
  | _ => obtain ⟨r, e, _⟩ := q1; cases e
def zipI (x y : D) (M : Mem) : Res (List D) := match x, y with
  | .lst xs, .lst ys => ok (zipD xs ys) M
  | .tup xs, .tup ys => ok (zipD xs ys) M
  | .tup xs, .lst ys => ok (zipD xs ys) M
  | _, _ => none
/-! ### targets -/
theorem RE.wiped {K : PySem.W.Frag} {p : Ph} {F : Hp} {env : Rf.Env} {σ : L2.St} (r : RE K p F env σ) : ∀ vs : List Nat, RE K p F (wipeE env vs) (wipe σ vs)
  | [] => r
  | v :: vs => by
    have ih := r.wiped vs
    refine ⟨by unfold wipeE wipe; rw [List.length_set, List.length_set]; exact ih.len, fun i d e => ?_⟩
    unfold wipeE at e
    unfold wipe
    by_cases hi : v = i
    · subst hi
      by_cases hl : v < (wipeE env vs).length
      · rw [List.getElem?_set_self hl] at e; cases e
      · rw [List.getElem?_eq_none (by rw [List.length_set]; omega)] at e; cases e
    · rw [List.getElem?_set_ne hi] at e ⊢
      exact ih.get i d e
theorem wipe_set {σ : L2.St} {i : Nat} {v : V} : ∀ {vs : List Nat}, i ∈ vs → wipe (σ.set i (some v)) vs = wipe σ vs
  | w :: vs, h => by
    unfold wipe
    by_cases hi : i ∈ vs
    · rw [wipe_set hi]
    · have e : i = w := by
        rcases List.mem_cons.mp h with h | h
        · exact h
        · exact absurd h hi
      subst e
      clear h
      refine List.ext_getElem? fun j => ?_
      by_cases hj : i = j
      · subst hj
        by_cases hl : i < σ.length
        · rw [List.getElem?_set_self (by rw [wipe_length, List.length_set]; exact hl), List.getElem?_set_self (by rw [wipe_length]; exact hl)]
        · rw [List.getElem?_eq_none (by rw [List.length_set, wipe_length, List.length_set]; omega), List.getElem?_eq_none (by rw [List.length_set, wipe_length]; omega)]
      · rw [List.getElem?_set_ne hj, List.getElem?_set_ne hj]
        by_cases hv : j ∈ vs
        · have := @wipe_in
          exact this hv
        · rw [wipe_out hv, wipe_out hv, List.getElem?_set_ne hj]
where wipe_in : ∀ {vs : List Nat} {j : Nat}, j ∈ vs → (wipe (σ.set i (some v)) vs)[j]? = (wipe σ vs)[j]?
  | w :: vs, j, h => by
    unfold wipe
    by_cases hj : w = j
    · subst hj
      by_cases hl : w < σ.length
      · rw [List.getElem?_set_self (by rw [wipe_length, List.length_set]; exact hl), List.getElem?_set_self (by rw [wipe_length]; exact hl)]
      · rw [List.getElem?_eq_none (by rw [List.length_set, wipe_length, List.length_set]; omega), List.getElem?_eq_none (by rw [List.length_set, wipe_length]; omega)]
    · rw [List.getElem?_set_ne hj, List.getElem?_set_ne hj]
      have h : j ∈ vs := by
        rcases List.mem_cons.mp h with h | h
        · exact absurd h.symm hj
        · exact h
      exact wipe_in h
/-- what a target does -/
def tTg (K : PySem.W.Frag) (tg : Tg) : TG := fun v σ H Q => ∃ p F env M d env', RM K p F M H ∧ RE K p F env σ ∧ Rel K p F v d ∧ asT tg d env = some env' ∧ ∀ σ', RE K p F env' σ' → (∀ vs, (∀ i ∈ tg.slots, i ∈ vs) → wipe σ' vs = wipe σ vs) → Q σ' H
def tTgs (K : PySem.W.Frag) (ts : TgL) : TGs := fun vs σ H Q => ∃ p F env M ds env', RM K p F M H ∧ RE K p F env σ ∧ Rels K p F vs ds ∧ asTs ts ds env = some env' ∧ ∀ σ', RE K p F env' σ' → (∀ vs, (∀ i ∈ ts.slots, i ∈ vs) → wipe σ' vs = wipe σ vs) → Q σ' H
theorem pg_imp {t t' : TG} (h : PG X e t) (i : ∀ v σ H Q, t' v σ H Q → t v σ H Q) : PG X e t' := ⟨fun pins s σ H v u Q I r q => h.run pins s σ H v u Q I r (i v σ H Q q)⟩
theorem pgs_imp {t t' : TGs} (h : PGs X es t) (i : ∀ v σ H Q, t' v σ H Q → t v σ H Q) : PGs X es t' := ⟨fun pins s σ H v u Q I r q => h.run pins s σ H v u Q I r (i v σ H Q q)⟩
theorem g_name {i : Nat} {x : Str} (hN : X.N.Nodup) (hi : X.N[i]? = some x) (hx : Loc X.env.scope x) (hf : X.fn x = true ∨ X.env.scope.names.lookup x = some .local) : PG X (.Name x pos) (tTg X.K (.nm i)) := by
  refine pg_imp (pg_name hN hi hx hf) fun v σ H Q ⟨p, F, env, M, d, env', rm, re, r, e, q⟩ => ?_
  cases e
  exact q _ (re.set r) fun vs h => wipe_set (h i (by simp [Tg.slots]))
def isStarT : Expr → Bool
  | .Starred _ _ => true
  | _ => false
theorem each_cons (h : isStarT e = false) : assignEach (e :: es) X.env = (false, assign e X.env) :: assignEach es X.env := by
  cases e <;> first | rfl | (cases h)
theorem gs_nil : PGs X [] (tTgs X.K .nil) := by
  refine pgs_imp pgs_nil fun v σ H Q ⟨p, F, env, M, d, env', rm, re, r, e, q⟩ => ?_
  cases d with
  | nil => cases e; cases r; exact ⟨rfl, q σ re fun _ _ => rfl⟩
  | cons d ds => cases e
theorem gs_cons {t : Tg} {ts : TgL} (hs : isStarT e = false) (h1 : PG X e (tTg X.K t)) (h2 : PGs X es (tTgs X.K ts)) : PGs X (e :: es) (tTgs X.K (.cons t ts)) := by
  refine pgs_imp (pgs_cons h1 h2 (by rw [each_cons hs]; rfl)) fun v σ H Q ⟨p, F, env, M, ds, env', rm, re, r, e, q⟩ => ?_
  cases ds with
  | nil => cases e
  | cons d ds =>
    cases r with
    | cons r rs =>
      have e : (match asT t d env with | some env' => asTs ts ds env' | none => none) = some env' := e
      split at e
      · rename_i env1 e1
        refine ⟨_, _, rfl, p, F, env, M, d, env1, rm, re, r, e1, fun σ1 re1 w1 => ?_⟩
        refine ⟨p, F, env1, M, ds, env', rm, re1, rs, e, fun σ2 re2 w2 => ?_⟩
        refine q σ2 re2 fun vs hv => ?_
        have hv : ∀ i ∈ t.slots ++ ts.slots, i ∈ vs := hv
        rw [w2 vs fun i hi => hv i (List.mem_append_right _ hi), w1 vs fun i hi => hv i (List.mem_append_left _ hi)]
      · cases e
theorem asTs_len : ∀ {ts : TgL} {ds : List D} {env env' : Rf.Env}, asTs ts ds env = some env' → ds.length = ts.len
  | .nil, [], _, _, _ => rfl
  | .nil, _ :: _, _, _, e => by cases e
  | .cons _ _, [], _, _, e => by cases e
  | .cons t ts, d :: ds, env, env', e => by
    have e : (match asT t d env with | some env' => asTs ts ds env' | none => none) = some env' := e
    split at e
    · show ds.length + 1 = ts.len + 1
      rw [asTs_len e]
    · cases e
theorem g_tup {k : Nat} {ts : TgL} (hc : X.calm = true) (hn : (assignEach es X.env).length = ts.len) (hst : (assignEach es X.env).findIdx? (·.1) = none) (h : PGs X es (tTgs X.K ts)) : PG X (.Tuple es k pos) (tTg X.K (.tp ts)) := by
  refine pg_imp (pg_tup hc h hn hst) fun v σ H Q ⟨p, F, env, M, d, env', rm, re, r, e, q⟩ => ?_
  cases r with
  | tup h1 r1 => exact ⟨_, _, rfl, h1.sq rm, by rw [r1.length]; exact asTs_len e, p, F, env, M, _, env', rm, re, r1, e, q⟩
  | _ => cases e
end
end Rf
end T_RfIter
section T_RfZip
set_option Elab.async false
set_option linter.all false
set_option maxRecDepth 100000
set_option maxHeartbeats 1000000
/-! Rf: zip of a tuple and a list -/
namespace Rf
open PySem PySem.Spec PyProof.Rows L2
/-- the tuple at a, the list at b, the items in new pairs -/
def ItM (K : PySem.W.Frag) (a b : Addr) : It :=
  ⟨fun i H => ∃ (xs ys : List V) (x y : V), SqT K H a xs ∧ SqL K H b ys ∧ xs[i]? = some x ∧ ys[i]? = some y,
    fun i H v H' => ∃ T x y, v = .ref T ∧ H T = none ∧ H' = upd H T (.tup [x, y]) ∧ (∀ xs, SqT K H a xs → xs[i]? = some x) ∧ ∀ ys, SqL K H b ys → ys[i]? = some y,
    fun i H => ∃ xs ys : List V, SqT K H a xs ∧ SqL K H b ys ∧ i ≤ xs.length ∧ i ≤ ys.length ∧ (xs.length = i ∨ ys.length = i)⟩
def StM (z TI TO i1 i2 a b : Addr) (i : Nat) (h : Heap) : Prop := IsZip h z TI TO .none ∧ IsTupOf2 h TI (.ref i1) (.ref i2) ∧ (∃ x y, IsTupOf2 h TO x y) ∧ h.IsTupleIter i1 a i ∧ h.IsListIter i2 b i
theorem five {c z TI TO i1 i2 : Addr} (hc : c ∈ [z, TI, TO, i1, i2]) : c = z ∨ c = TI ∨ c = TO ∨ c = i1 ∨ c = i2 := by simpa using hc
theorem turn_zipM {P : Program} {w : World} {K : PySem.W.Frag} {elts : List Expr} {kk : Nat} {tpos : Pos} {a b z TI TO i1 i2 : Addr} (S : ZipSep2 z TI TO i1 i2 [i1, a] [i2, b]) (na : a ≠ i1) (nb : b ≠ i2) :
    Turn P w K (.Tuple elts kk tpos) (ItM K a b) [z, TI, TO, i1, i2] z (StM z TI TO i1 i2 a b) where
  mem := by simp
  obj := fun i h st c hc => by
    obtain ⟨hz, hTI, ⟨x, y, hTO⟩, ⟨o1, e1, _, d1⟩, ⟨o2, e2, _, d2⟩⟩ := st
    rcases five hc with q | q | q | q | q
    · rw [q]; exact ⟨_, hz, fun v q => nomatch q⟩
    · rw [q]; exact ⟨_, hTI, fun v q => nomatch q⟩
    · rw [q]; exact ⟨_, hTO, fun v q => nomatch q⟩
    · rw [q]; exact ⟨o1, e1, fun v q => by rw [d1] at q; cases q⟩
    · rw [q]; exact ⟨o2, e2, fun v q => by rw [d2] at q; cases q⟩
  keep := fun i h h' st k => by
    obtain ⟨hz, hTI, ⟨x, y, hTO⟩, h1, h2⟩ := st
    exact ⟨k z (by simp) _ hz, k TI (by simp) _ hTI, ⟨x, y, k TO (by simp) _ hTO⟩, h1.at fun o q => k i1 (by simp) o q, h2.at fun o q => k i2 (by simp) o q⟩
  item := by
    intro X hP hw hK hc i pins s σ H E I hf st hg
    subst hP hw hK
    obtain ⟨hz, hTI, ⟨x0, y0, hTO⟩, h1, h2⟩ := st
    obtain ⟨xs, ys, x, y, hqx, hqy, hx, hy⟩ := hg
    obtain ⟨its, rv, p, _⟩ := I.tuple hqx
    obtain ⟨its2, rv2, p2, _⟩ := I.list hqy
    obtain ⟨u, hu, ru⟩ := rv.get hx
    obtain ⟨u2, hu2, ru2⟩ := rv2.get hy
    have hzl : z < s.heap.objs.size := Heap.lt_size hz
    have hh : X.A.in1.handled = none := I.ok.hd hc
    have D1 := Draws.tuple (prog := X.prog) (w := X.w) hh i1 a na its.toArray
    have D2 := Draws.list (prog := X.prog) (w := X.w) hh i2 b nb its2.toArray
    have l1 : i < its.toArray.size := by rw [List.size_toArray]; exact (List.getElem?_eq_some_iff.mp hu).1
    have l2 : i < its2.toArray.size := by rw [List.size_toArray]; exact (List.getElem?_eq_some_iff.mp hu2).1
    refine wpAny_pyNext_zipD2_item S D1 D2 hz hTI hTO ⟨h1, p⟩ ⟨h2, p2.isList⟩ l1 l2 fun x1 x2 h' tk e1 e2 z' TO' s1' s2' hT hsz hk => ?_
    have e1 : its.toArray[i]? = some x1 := e1
    have e2 : its2.toArray[i]? = some x2 := e2
    have e1 : x1 = u := by have : its[i]? = some x1 := by simpa using e1
                           rw [hu] at this; exact (Option.some.inj this).symm
    have e2 : x2 = u2 := by have : its2[i]? = some x2 := by simpa using e2
                            rw [hu2] at this; exact (Option.some.inj this).symm
    subst e1 e2
    refine ⟨_, rfl, wpAny_letOwnedTupleGo_zip (s := { s with heap := h', toks := tk }) z' fun h'' z'' sb => ?_⟩
    have hT2 : h''.get? s.heap.objs.size = some { cls := .type "tuple", data := .seq #[x1, x2] } := (sb.2 _ (Nat.ne_of_gt hzl)).trans hT
    have new : ObjOk X.prog X.w (upd H s.heap.objs.size (.tup [x, y])) h'' s.heap.objs.size (.tup [x, y]) :=
      ⟨by show 2 ≤ sizeLine; decide, [x1, x2], .cons ru (.cons ru2 .nil), ⟨_, hT2, rfl, _, rfl⟩⟩
    have I1 : Inv X pins σ (upd H s.heap.objs.size (.tup [x, y])) { s with heap := h'', toks := tk } :=
      I.turnedNew (t' := tk) (ch := [z, TI, TO, i1, i2]) (fun c o hb q => (sb.2 c (fun q' => hb (by simp [q']))).trans (hk c o (fun q' => hb (by simp [q'])) (fun q' => hb (by simp [q'])) (fun q' => hb (by simp [q'])) (fun q' => hb (by simp [q'])) q)) hf (Nat.le_refl _) new
    refine ⟨.ref s.heap.objs.size, _, I1, rfl, ⟨_, x, y, rfl, I.hok.fresh (Nat.le_refl _), rfl, fun l hl => by rw [I.tuple_inj hl hqx]; exact hx, fun l hl => by rw [I.list_inj hl hqy]; exact hy⟩, ⟨z'', ?_, ⟨x1, x2, ?_⟩, ?_, ?_⟩, fun c hcm => ?_⟩
    · exact (sb.2 _ S.TIz).trans (hk _ _ S.TIz S.TITO S.TIi1 S.TIi2 hTI)
    · exact (sb.2 _ S.TOz).trans TO'
    · exact s1'.1.at fun o q => (sb.2 _ (Ne.symm S.zi1)).trans q
    · exact s2'.1.at fun o q => (sb.2 _ (Ne.symm S.zi2)).trans q
    · have hlt : c < s.heap.objs.size := by
        rcases five hcm with q | q | q | q | q
        · rw [q]; exact hzl
        · rw [q]; exact Heap.lt_size hTI
        · rw [q]; exact Heap.lt_size hTO
        · rw [q]; obtain ⟨_, e1, _⟩ := h1; exact Heap.lt_size e1
        · rw [q]; obtain ⟨_, e2, _⟩ := h2; exact Heap.lt_size e2
      rw [upd_ne (Nat.ne_of_lt hlt)]
      exact (hf c hcm).1
  done := by
    intro X hP hw hK hc i pins s σ H E I hf st hg
    subst hP hw hK
    obtain ⟨hz, hTI, ⟨x0, y0, hTO⟩, h1, h2⟩ := st
    obtain ⟨xs, ys, hqx, hqy, le1, le2, hend⟩ := hg
    obtain ⟨its, rv, p, _⟩ := I.tuple hqx
    obtain ⟨its2, rv2, p2, _⟩ := I.list hqy
    have l1 := rv.length
    have l2 := rv2.length
    have hh : X.A.in1.handled = none := I.ok.hd hc
    have D1 := Draws.tuple (prog := X.prog) (w := X.w) hh i1 a na its.toArray
    have D2 := Draws.list (prog := X.prog) (w := X.w) hh i2 b nb its2.toArray
    exact wpAny_pyNext_zipD2_end S D1 D2 hz hTI hTO ⟨h1, p⟩ ⟨h2, p2.isList⟩ (by rw [List.size_toArray]; omega) (by rw [List.size_toArray]; omega) (by rw [List.size_toArray, List.size_toArray]; omega)
      fun h' tk hk => ⟨rfl, I.turnedL (t' := tk) (ch := [z, TI, TO, i1, i2]) (fun c o hb q => hk c o (fun q' => hb (by simp [q'])) (fun q' => hb (by simp [q'])) (fun q' => hb (by simp [q'])) (fun q' => hb (by simp [q'])) q) hf⟩
  self := fun A i s Q E st h => wpAny_pyIter_zip st.1 h
def iZipM (K : PySem.W.Frag) (ta : TA) : TI := fun σ H R => ta σ H fun vs H1 => ∃ a b xs ys, vs = [.ref a, .ref b] ∧ SqT K H1 a xs ∧ SqL K H1 b ys ∧ R (ItM K a b) H1
theorem pi_zipM {X : Cx} {e e2 : Expr} {ta : TA} {p pos tpos : Pos} {elts : List Expr} {kk : Nat} (hg : Gl X "zip") (hm : X.mg "zip" = none) (ha : PA X [e, e2] ta)
    (hs : starEach [e, e2] X.env = (false, eval e X.env) :: starEach [e2] X.env) (hpl : (backTo pos (starEach [e2] X.env)).any (·.1) = false) :
    PI X (.Tuple elts kk tpos) (.Call (.Name "zip" p) [e, e2] [] pos) (iZipM X.K ta) := by
  refine ⟨fun pins s σ H R I h => ?_⟩
  refine Call_ (ld_blt I hg hm PyProof.Rows.boot_zip (PyProof.Rows.callWith_type1 (thn (ha.run pos pins s σ H _ I h) fun us s1 ⟨vs, H1, I1, r1, q1⟩ => ?_) hs hpl))
  obtain ⟨a, b, xs, ys, ex, hqx, hqy, q⟩ := q1
  subst ex
  cases r1 with
  | cons r rr =>
    cases rr with
    | cons r' rr =>
      cases rr
      cases r
      cases r'
      obtain ⟨its, rv, p1, _⟩ := I1.tuple hqx
      obtain ⟨its2, rv2, p2, _⟩ := I1.list hqy
      have la : a < s1.heap.objs.size := by obtain ⟨o1, ho1, _⟩ := id p1; exact Heap.lt_size ho1
      have lb : b < s1.heap.objs.size := p2.lt
      refine zip_begins2 (begins_tuple a its.toArray) (begins_list b its2.toArray) (show s1.heap.IsTuple a its.toArray from p1) p2.isList fun h' hz hTI hTO h1 h2 hsz hk => wpAny_pyIter_zip hz ?_
      have I2 : Inv X pins σ H1 { s1 with heap := h' } := I1.kept (t' := s1.toks) hk
      have S : ZipSep2 (s1.heap.objs.size + 4) (s1.heap.objs.size + 2) (s1.heap.objs.size + 3) s1.heap.objs.size (s1.heap.objs.size + 1) [s1.heap.objs.size, a] [s1.heap.objs.size + 1, b] :=
        zip_sep2 (fp1 := [a]) (fp2 := [b]) (fun c hc => by rw [List.mem_singleton.mp hc]; exact la) (fun c hc => by rw [List.mem_singleton.mp hc]; exact lb)
      refine ⟨s1.heap.objs.size + 4, [s1.heap.objs.size + 4, s1.heap.objs.size + 2, s1.heap.objs.size + 3, s1.heap.objs.size, s1.heap.objs.size + 1], _, _, H1, rfl, I2, turn_zipM S (Nat.ne_of_lt la) (Nat.ne_of_lt (Nat.lt_succ_of_lt lb)), ⟨hz, hTI, ⟨_, _, hTO⟩, ⟨_, h1, rfl, rfl⟩, ⟨_, h2, rfl, rfl⟩⟩, fun c hcm => ?_, q⟩
      have hle : s1.heap.objs.size ≤ c := by
        rcases five hcm with z | z | z | z | z
        · rw [z]; exact Nat.le_add_right _ _
        · rw [z]; exact Nat.le_add_right _ _
        · rw [z]; exact Nat.le_add_right _ _
        · rw [z]; exact Nat.le_refl _
        · rw [z]; exact Nat.le_add_right _ _
      exact I1.fpOk hle (I1.hok.fresh hle)
theorem wk_zipM {K : PySem.W.Frag} {p : Ph} {F : Hp} {a b : Addr} {xs ys : List V} {ds es : List D} (h : TupAt K F a xs) (r : Rels K p F xs ds) (h' : F b = some (.lst ys)) (r' : Rels K p F ys es) : Wk K p F (ItM K a b) (zipD ds es) := by
  refine ⟨fun p' F' H' M' i z l rm e => ?_, fun p' F' H' M' l rm => ?_⟩
  · obtain ⟨x, y, e0, e0', rfl⟩ := zipD_get _ _ _ _ e
    obtain ⟨v, h1, h2⟩ := r.get e0
    obtain ⟨v', h1', h2'⟩ := r'.get e0'
    have q : SqT K H' a xs := (h.mono l).sq rm
    have q' : SqL K H' b ys := .inl (.inl (rm.fro _ _ (l.lst _ _ h')))
    refine ⟨⟨xs, ys, v, v', q, q', h1, h1'⟩, fun w H2 ⟨T, x', y', e1, e2, e3, e4, e4'⟩ => ?_⟩
    have e5 := e4 xs q
    rw [h1] at e5; cases e5
    have e5' := e4' ys q'
    rw [h1'] at e5'; cases e5'
    subst e1 e3
    exact ⟨_, step_new rm e2, rm_new rm e2, .tup (.inl upd_same) (.cons ((h2.mono l).mono (le_new (rm.free e2))) (.cons ((h2'.mono l).mono (le_new (rm.free e2))) .nil))⟩
  · rw [zipD_len]
    refine ⟨xs, ys, (h.mono l).sq rm, .inl (.inl (rm.fro _ _ (l.lst _ _ h'))), ?_, ?_, ?_⟩
    · rw [r.length]; omega
    · rw [r'.length]; omega
    · rw [r.length, r'.length]; omega
section
variable {X : Cx} {ca : Nat → Addr} {W : WX} {a b : Expr} {f g : Rf.Env → Mem → Res D} {pos : Pos}
/-- zip of two lists, two tuples, a tuple and a list -/
theorem i_zipA {p tpos : Pos} {elts : List Expr} {kk : Nat} (hg : Gl X "zip") (hm : X.mg "zip" = none) (hs : isStar a = false) (hs2 : isStar b = false) (ha : PE X a (tE X.K ca W f)) (hb : PE X b (tE X.K ca W g)) :
    PI X (.Tuple elts kk tpos) (.Call (.Name "zip" p) [a, b] [] pos) (tI X.K ca W fun env M => (f env M).bind fun x M => (g env M).bind fun y M => zipI x y M) := by
  refine ⟨fun pins s σ H R I ⟨p0, F, env, M, rm, re, q⟩ => ?_⟩
  have q : At X.K ca W σ (Wk X.K) p0 F H ((f env M).bind fun x M => (g env M).bind fun y M => zipI x y M) R := q
  by_cases hx : ∃ xs M1 ys M2, f env M = some (.ok (.tup xs) M1) ∧ g env M1 = some (.ok (.lst ys) M2)
  · obtain ⟨xs, M1, ys, M2, z1, z2⟩ := hx
    rw [z1] at q
    have q : At X.K ca W σ (Wk X.K) p0 F H ((g env M1).bind fun y M => zipI (.tup xs) y M) R := q
    rw [z2] at q
    have q : At X.K ca W σ (Wk X.K) p0 F H (ok (zipD xs ys) M2) R := q
    refine (pi_zipM hg hm (pa_cons ha (pa_cons hb pa_nil (star_cons hs2)) (star_cons hs)) (star_cons hs) (by rw [star_cons hs2]; rfl)).run pins s σ H R I ?_
    refine ⟨p0, F, env, M, rm, re, ?_⟩
    rw [z1]
    refine ⟨_, rfl, fun p1 F1 H1 v s1 rm1 r1 => ?_⟩
    refine ⟨p1, F1, env, M1, rm1, re.mono s1.toLe, ?_⟩
    rw [z2]
    refine ⟨_, rfl, fun p2 F2 H2 v2 s2 rm2 r2 => ?_⟩
    have r1 := r1.mono s2.toLe
    cases r1 with
    | tup h1 l1 =>
      cases r2 with
      | lst h2 l2 => exact ⟨_, _, _, _, rfl, h1.sq rm2, .inl (.inl (rm2.fro _ _ h2)), (q.sub (γ := Nat)) _ _ _ _ (s1.trans s2) rm2 (wk_zipM h1 l1 h2 l2)⟩
  · refine (RZ.pi_zipA hg hm (pa_cons ha (pa_cons hb pa_nil (star_cons hs2)) (star_cons hs)) (star_cons hs) (by rw [star_cons hs2]; rfl)).run pins s σ H R I ?_
    refine ⟨p0, F, env, M, rm, re, ?_⟩
    cases z1 : f env M with
    | none => rw [z1] at q; obtain ⟨r, e, _⟩ := q; cases e
    | some r1 =>
      rw [z1] at q
      cases r1 with
      | er x M1 =>
        have q : At X.K ca W σ (Wk X.K) p0 F H (some (.er x M1)) R := q
        exact q.erI
      | ok dx M1 =>
        have q : At X.K ca W σ (Wk X.K) p0 F H ((g env M1).bind fun y M => zipI dx y M) R := q
        refine ⟨_, rfl, fun p1 F1 H1 v s1 rm1 r1 => ?_⟩
        refine ⟨p1, F1, env, M1, rm1, re.mono s1.toLe, ?_⟩
        cases z2 : g env M1 with
        | none => rw [z2] at q; obtain ⟨r, e, _⟩ := q; cases e
        | some r2 =>
          rw [z2] at q
          cases r2 with
          | er x M2 =>
            have q : At X.K ca W σ (Wk X.K) p0 F H (some (.er x M2)) R := q
            exact (q.move s1).erI
          | ok dy M2 =>
            have q : At X.K ca W σ (Wk X.K) p0 F H (zipI dx dy M2) R := q
            refine ⟨_, rfl, fun p2 F2 H2 v2 s2 rm2 r2 => ?_⟩
            have r1 := r1.mono s2.toLe
            cases r1 with
            | lst h1 l1 =>
              cases r2 with
              | lst h2 l2 => exact ⟨_, _, _, _, rfl, .inl ⟨.inl (.inl (rm2.fro _ _ h1)), .inl (.inl (rm2.fro _ _ h2)), (At.sub (γ := Nat) q) _ _ _ _ (s1.trans s2) rm2 (wk_zip h1 l1 h2 l2)⟩⟩
              | _ => obtain ⟨r, e, _⟩ := q; cases e
            | tup h1 l1 =>
              cases r2 with
              | tup h2 l2 => exact ⟨_, _, _, _, rfl, .inr ⟨h1.sq rm2, h2.sq rm2, (At.sub (γ := Nat) q) _ _ _ _ (s1.trans s2) rm2 (wk_zipT h1 l1 h2 l2)⟩⟩
              | lst h2 l2 => exact absurd ⟨_, M1, _, M2, z1, z2⟩ hx
              | _ => obtain ⟨r, e, _⟩ := q; cases e
            | _ => obtain ⟨r, e, _⟩ := q; cases e
end
end Rf
end T_RfZip
section T_RfComp
set_option Elab.async false
set_option linter.all false
set_option maxRecDepth 100000
set_option maxHeartbeats 1000000
/-! Rf: comprehensions -/
namespace Rf
open PySem PySem.Spec PyProof.Rows L2
abbrev WF : WX := fun _ _ _ _ => False
theorem wipe_at {σ : L2.St} : ∀ {vs : List Nat} {j : Nat}, j ∈ vs → (wipe σ vs)[j]? = if j < σ.length then some none else none
  | w :: vs, j, h => by
    unfold wipe
    by_cases hj : w = j
    · subst hj
      by_cases hl : w < σ.length
      · rw [List.getElem?_set_self (by rw [wipe_length]; exact hl), if_pos hl]
      · rw [List.getElem?_eq_none (by rw [List.length_set, wipe_length]; omega), if_neg hl]
    · rw [List.getElem?_set_ne hj]
      have h : j ∈ vs := by
        rcases List.mem_cons.mp h with h | h
        · exact absurd h.symm hj
        · exact h
      exact wipe_at h
theorem wipe_wipe {σ : L2.St} {vs : List Nat} : wipe (wipe σ vs) vs = wipe σ vs := by
  refine List.ext_getElem? fun j => ?_
  by_cases h : j ∈ vs
  · rw [wipe_at h, wipe_at h, wipe_length]
  · rw [wipe_out h]
section
variable {K : PySem.W.Frag} {p1 p2 : Ph} {F1 F2 H1 H : Hp} {M : Mem} {q : Addr} {o : HO}
/-- a thing that is neither frozen nor a cell is written -/
theorem step_out (s : Step p1 F1 H1 p2 F2 H) (h : H1 q = none) : Step p1 F1 H1 p2 F2 (upd H q o) where
  toLe := s.toLe
  keep := fun a u e hn => by rw [upd_ne (fun z => by rw [z, h] at e; cases e)]; exact s.keep a u e hn
  there := fun a e => s.there a (upd_none e)
  new := s.new
  fk := s.fk
  fnew := s.fnew
theorem rm_out (r : RM K p2 F2 M H) (hF : F2 q = none) (hp : ∀ n, p2 n ≠ some q) : RM K p2 F2 M (upd H q o) where
  fro := fun a u e => by rw [upd_ne (fun z => by rw [z, hF] at e; cases e)]; exact r.fro a u e
  dom := r.dom
  inj := r.inj
  liv := fun n a e => by rw [upd_ne (fun z => hp n (by rw [← z]; exact e))]; exact r.liv n a e
  cell := fun n a c e1 e2 hc => by
    obtain ⟨h1, h2⟩ := r.cell n a c e1 e2 hc
    exact ⟨h1, h2.keep (Le.refl ..) (upd_ne (fun z => hp n (by rw [← z]; exact e1)))⟩
/-- such a thing is frozen -/
theorem step_fz (s : Step p1 F1 H1 p2 F2 H) (h : H1 q = none) (hF : F2 q = none) : Step p1 F1 H1 p2 (upd F2 q o) H where
  toLe := s.toLe.trans (le_new hF)
  keep := s.keep
  there := s.there
  new := s.new
  fk := fun a u kvs e => by rw [upd_free (by rw [s.fk a u kvs e]; simp) hF]; exact s.fk a u kvs e
  fnew := fun a u e => by
    by_cases ha : a = q
    · subst ha; exact .inr (.inl h)
    · rw [upd_ne ha] at e; exact s.fnew a u e
theorem rm_fz (r : RM K p2 F2 M H) (hF : F2 q = none) (hH : H q = some o) (hp : ∀ n, p2 n ≠ some q) : RM K p2 (upd F2 q o) M H where
  fro := fun a u e => by
    by_cases ha : a = q
    · subst ha; rw [upd_same] at e; cases e; exact hH
    · rw [upd_ne ha] at e; exact r.fro a u e
  dom := r.dom
  inj := r.inj
  liv := r.liv
  cell := fun n a c e1 e2 hc => by
    obtain ⟨h1, h2⟩ := r.cell n a c e1 e2 hc
    have ha : a ≠ q := fun z => hp n (by rw [← z]; exact e1)
    exact ⟨by rw [upd_ne ha]; exact h1, h2.keep (le_new hF) rfl⟩
theorem out_keep (s : Step p1 F1 H1 p2 F2 H) (h : H1 q = some o) (hp : ∀ n, p1 n ≠ some q) (hF : F1 q = none) : H q = some o ∧ (∀ n, p2 n ≠ some q) ∧ F2 q = none := by
  refine ⟨s.keep q o h hp, fun n e => ?_, ?_⟩
  · rcases s.new n q e with e | e
    · exact hp n e
    · rw [h] at e; cases e
  · cases e : F2 q with
    | none => rfl
    | some u =>
      rcases s.fnew q u e with e | e | ⟨n, e⟩
      · rw [hF] at e; cases e
      · rw [h] at e; cases e
      · exact absurd e (hp n)
end
/-- one turn -/
def gEl (fc fe : Rf.Env → Mem → Res D) (tg : Tg) (env : Rf.Env) : D → Mem → Res (Option D) := fun x M => match asT tg x env with
  | some env' => (asB (fc env' M)).bind fun t M => if t then (fe env' M).bind fun y M => ok (some y) M else ok none M
  | none => none
theorem lcL_len {g : D → Mem → Res (Option D)} : ∀ {xs : List D} {M M' : Mem} {acc ys : List D}, lcL g xs M acc = some (.ok ys M') → acc.length ≤ ys.length
  | [], M, M', acc, ys, h => by cases h; exact Nat.le_refl _
  | x :: xs, M, M', acc, ys, h => by
    unfold lcL at h
    split at h
    · have := lcL_len h
      rw [List.length_append] at this
      exact Nat.le_trans (Nat.le_add_right _ _) this
    · exact lcL_len h
    · cases h
theorem lcL_er {g : D → Mem → Res (Option D)} : ∀ {xs : List D} {M M' : Mem} {acc : List D} {x : Exn}, lcL g xs M acc ≠ some (.er x M')
  | [], M, M', acc, x, h => by cases h
  | y :: xs, M, M', acc, x, h => by
    unfold lcL at h
    split at h
    · exact lcL_er h
    · exact lcL_er h
    · cases h
theorem gEl_inv {fc fe : Rf.Env → Mem → Res D} {tg : Tg} {env : Rf.Env} {x : D} {M M' : Mem} {o : Option D} (h : gEl fc fe tg env x M = some (.ok o M')) :
    ∃ env' t M1, asT tg x env = some env' ∧ asB (fc env' M) = some (.ok t M1) ∧ ((t = false ∧ o = none ∧ M' = M1) ∨ (t = true ∧ ∃ y, o = some y ∧ fe env' M1 = some (.ok y M'))) := by
  unfold gEl at h
  split at h
  · rename_i env' e
    refine ⟨env', ?_⟩
    cases z : asB (fc env' M) with
    | none => rw [z] at h; cases h
    | some r =>
      rw [z] at h
      cases r with
      | er x M1 => cases h
      | ok t M1 =>
        refine ⟨t, M1, e, rfl, ?_⟩
        cases t with
        | false => cases h; exact .inl ⟨rfl, rfl, rfl⟩
        | true =>
          have h : ((fe env' M1).bind fun y M => ok (some y) M) = some (.ok o M') := h
          cases z2 : fe env' M1 with
          | none => rw [z2] at h; cases h
          | some r =>
            rw [z2] at h
            cases r with
            | er x M2 => cases h
            | ok y M2 => cases h; exact .inr ⟨rfl, y, rfl, rfl⟩
  · cases h
section
variable {K : PySem.W.Frag} {ca : Nat → Addr} {W : WX} {fi : Rf.Env → Mem → Res (List D)} {fc fe : Rf.Env → Mem → Res D} {tg : Tg}
def lcF (fi : Rf.Env → Mem → Res (List D)) (fc fe : Rf.Env → Mem → Res D) (tg : Tg) : Rf.Env → Mem → Res D := fun env M => (fi env M).bind fun xs M => (lcL (gEl fc fe tg (wipeE env tg.slots)) xs M []).bind fun ys M => if ys.length ≤ sizeLine then ok (.lst ys) M else none
theorem lc_read {tt : TT} {vs : List Nat} {σ : L2.St} {H : Hp} {Q : VK} (hv : vs = tg.slots) (htt : ∀ σ H Q, tT K ca WF fc σ H Q → tt σ H Q) (h : tE K ca W (lcF fi fc fe tg) σ H Q) : tLc (tI K ca W fi) (tTg K tg) tt (tE K ca WF fe) vs σ H Q := by
  subst hv
  obtain ⟨p, F, env, M, rm, re, h⟩ := h
  refine ⟨p, F, env, M, rm, re, (h.bind (rel1 := Wk K)).imp fun J H1 ⟨p1, F1, M1, ds, s1, rm1, w1, q1⟩ => ?_⟩
  intro L hL
  cases z : lcL (gEl fc fe tg (wipeE env tg.slots)) ds M1 [] with
  | none => rw [z] at q1; obtain ⟨r, e, _⟩ := q1; cases e
  | some r =>
    cases r with
    | er x M' => exact absurd z lcL_er
    | ok ys M' =>
      rw [z] at q1
      have q1 : At K ca W σ (Rel K) p1 F1 H1 (if ys.length ≤ sizeLine then ok (.lst ys) M' else none) Q := q1
      obtain ⟨hys, q2⟩ := q1.cond
      refine ⟨fun i m H => m = ds.length - i ∧ i ≤ ds.length ∧ ∃ p2 F2 M2 acc accd, Step p1 F1 H1 p2 F2 H ∧ RM K p2 F2 M2 H ∧ H L = some (.lst acc) ∧ F2 L = none ∧ (∀ k, p2 k ≠ some L) ∧ Rels K p2 F2 acc accd ∧ lcL (gEl fc fe tg (wipeE env tg.slots)) (ds.drop i) M2 accd = some (.ok ys M'), ⟨ds.length, by simp, Nat.zero_le _, ?_⟩, ?_⟩
      · have hp : ∀ k, p1 k ≠ some L := fun k e => rm1.liv k L e hL
        exact ⟨p1, F1, M1, [], [], step_out (Step.refl ..) hL, rm_out rm1 (rm1.free hL) hp, upd_same, rm1.free hL, hp, .nil, by rw [List.drop_zero]; exact z⟩
      · rintro i m H ⟨rfl, hi, p2, F2, M2, acc, accd, s2, rm2, hH, hF, hp, rl, zi⟩
        by_cases hlt : i < ds.length
        · refine .inr ?_
          have hx : ds[i]? = some ds[i] := List.getElem?_eq_getElem hlt
          have hd : ds.drop i = ds[i] :: ds.drop (i + 1) := List.drop_eq_getElem_cons hlt
          obtain ⟨g1, g2⟩ := w1.go p2 F2 H M2 i ds[i] s2.toLe rm2 hx
          refine ⟨g1, fun H' => _, fun H' h => ⟨ds.length - (i + 1), by omega, rfl, hlt, h⟩, fun v H' y => ?_⟩
          obtain ⟨F3, s3, rm3, r3⟩ := g2 v H' y
          rw [hd] at zi
          unfold lcL at zi
          have main : ∃ o M4, gEl fc fe tg (wipeE env tg.slots) ds[i] M2 = some (.ok o M4) ∧ lcL (gEl fc fe tg (wipeE env tg.slots)) (ds.drop (i + 1)) M4 (match o with | some y => accd ++ [y] | none => accd) = some (.ok ys M') := by
            split at zi
            · rename_i y M4 e; exact ⟨some y, M4, e, zi⟩
            · rename_i M4 e; exact ⟨none, M4, e, zi⟩
            · cases zi
          obtain ⟨o, M4, e1, e2⟩ := main
          obtain ⟨env', t, M3, a1, a2, a3⟩ := gEl_inv e1
          refine ⟨p2, F3, wipeE env tg.slots, M2, ds[i], env', rm3, ((re.mono (s1.toLe.trans s2.toLe)).mono s3.toLe).wiped tg.slots, r3, a1, fun σ2 re2 w2 => ?_⟩
          refine ⟨by rw [w2 tg.slots (fun _ h => h), wipe_wipe], htt σ2 H' _ ⟨p2, F3, env', M2, rm3, re2, ?_⟩⟩
          refine ⟨_, a2, fun p4 F4 H4 b s4 rm4 eb => ?_⟩
          have eb : b = t := eb
          subst eb
          rcases a3 with ⟨rfl, rfl, rfl⟩ | ⟨rfl, y, rfl, a4⟩
          · simp only [Bool.false_eq_true, if_false]
            have sA := s3.trans s4
            obtain ⟨k1, k2, k3⟩ := out_keep sA hH hp hF
            exact ⟨p4, F4, _, acc, accd, s2.trans sA, rm4, k1, k3, k2, rl.mono sA.toLe, e2⟩
          · simp only [if_true]
            refine ⟨p4, F4, env', M3, rm4, re2.mono s4.toLe, _, a4, fun p5 F5 H5 v5 s5 rm5 r5 => ?_⟩
            have sA := (s3.trans s4).trans s5
            obtain ⟨k1, k2, k3⟩ := out_keep sA hH hp hF
            have hl := lcL_len e2
            have hl : (accd ++ [y]).length ≤ ys.length := hl
            rw [List.length_append, List.length_singleton] at hl
            have hl2 : acc.length < sizeLine := by rw [rl.length]; omega
            refine ⟨acc, k1, hl2, ?_⟩
            exact ⟨p5, F5, _, acc ++ [v5], accd ++ [y], step_out (s2.trans sA) hL, rm_out rm5 k3 k2, upd_same, k3, k2, (rl.mono sA.toLe).append (.cons r5 .nil), e2⟩
        · have e : i = ds.length := by omega
          subst e
          refine .inl ⟨w1.stop p2 F2 H M2 s2.toLe rm2, ?_⟩
          rw [List.drop_length] at zi
          cases zi
          exact q2.new _ _ _ _ (step_fz s2 hL hF) (rm_fz rm2 hF hH hp) (.lst upd_same (rl.mono (le_new hF)))
end
section
variable {X : Cx} {ca : Nat → Addr} {W : WX} {fi : Rf.Env → Mem → Res (List D)} {fc fe : Rf.Env → Mem → Res D} {tg : Tg} {elt tgE iter c : Expr} {scope : Scope} {own : List (Str × Nat)} {pos : Pos}
def isSetE : Expr → Bool
  | .Set _ _ _ => true
  | _ => false
theorem folded (h : isSetE iter = false) : ∀ x, foldedSetIterable iter X.env x = pure x := by
  intro x
  cases iter <;> first | rfl | (cases h)
theorem e_lcIf (hc : X.calm = true) (hN : X.N.Nodup) (hi : PI X tgE iter (tI X.K ca W fi)) (ok : BlkOk X.N X.env.scope scope own) (hv : own.map (·.2) = tg.slots)
    (hg : ∀ (s : Shared) (H : Hp) (C : Addr) (cl : List (Str × Addr)) (fp : List Addr), PG (X.blk s H scope (compEnvC scope cl C X.env) fp) tgE (tTg X.K tg))
    (ht : ∀ (s : Shared) (H : Hp) (C : Addr) (cl : List (Str × Addr)) (fp : List Addr), PT (X.blk s H scope (compEnvC scope cl C X.env) fp) c (tT X.K ca WF fc))
    (he : ∀ (s : Shared) (H : Hp) (C : Addr) (cl : List (Str × Addr)) (fp : List Addr), PE (X.blk s H scope (compEnvC scope cl C X.env) fp) elt (tE X.K ca WF fe)) (hs : isSetE iter = false) :
    PE X (.ListComp elt [⟨tgE, iter, [c], 0⟩] scope pos) (tE X.K ca W (lcF fi fc fe tg)) :=
  pe_imp (pe_lc hc hN hi ok hg (fun s H C cl fp => pts_one (ht s H C cl fp)) he (folded hs)) fun σ H Q q => lc_read hv (fun _ _ _ h => h) q
theorem yes_read {σ : L2.St} {H : Hp} {Q : Bool → Hp → Prop} (h : tT X.K ca WF (fun _ M => ok (.bl true) M) σ H Q) : tYes σ H Q := by
  obtain ⟨p, F, env, M, rm, re, q⟩ := h
  exact (At.sub (γ := Nat) (r := true) q) _ _ _ _ (Step.refl ..) rm rfl
theorem e_lc (hc : X.calm = true) (hN : X.N.Nodup) (hi : PI X tgE iter (tI X.K ca W fi)) (ok : BlkOk X.N X.env.scope scope own) (hv : own.map (·.2) = tg.slots)
    (hg : ∀ (s : Shared) (H : Hp) (C : Addr) (cl : List (Str × Addr)) (fp : List Addr), PG (X.blk s H scope (compEnvC scope cl C X.env) fp) tgE (tTg X.K tg))
    (he : ∀ (s : Shared) (H : Hp) (C : Addr) (cl : List (Str × Addr)) (fp : List Addr), PE (X.blk s H scope (compEnvC scope cl C X.env) fp) elt (tE X.K ca WF fe)) (hs : isSetE iter = false) :
    PE X (.ListComp elt [⟨tgE, iter, [], 0⟩] scope pos) (tE X.K ca W (lcF fi (fun _ M => Rf.ok (.bl true) M) fe tg)) :=
  pe_imp (pe_lc hc hN hi ok hg (fun s H C cl fp => pts_nil) he (folded hs)) fun σ H Q q => lc_read hv (fun _ _ _ h => yes_read h) q
end
end Rf
end T_RfComp
section T_RfStmt
set_option Elab.async false
set_option linter.all false
set_option maxRecDepth 100000
set_option maxHeartbeats 1000000
/-! Rf: statements -/
namespace Rf
open PySem PySem.Spec PyProof.Rows L2
section
variable {K : PySem.W.Frag} {ca : Nat → Addr} {W : WX}
/-- a statement's end, met by what is wanted -/
def EndR (K : PySem.W.Frag) (ca : Nat → Addr) (W : WX) (p : Ph) (F H : Hp) (D : Ends) : Fl × Rf.Env × Mem → Prop
  | (.nx, env', M') => ∀ p' F' H' σ', Step p F H p' F' H' → RM K p' F' M' H' → RE K p' F' env' σ' → D.nx σ' H'
  | (.brk, env', M') => ∀ p' F' H' σ', Step p F H p' F' H' → RM K p' F' M' H' → RE K p' F' env' σ' → D.bk σ' H'
  | (.cont, env', M') => ∀ p' F' H' σ', Step p F H p' F' H' → RM K p' F' M' H' → RE K p' F' env' σ' → D.ct σ' H'
  | (.ret d, _, M') => ∀ p' F' H' v, Step p F H p' F' H' → RM K p' F' M' H' → Rel K p' F' v d → D.rt v H'
  | (.exc x, env', M') => ∀ p' F' H' σ' cls dd, Step p F H p' F' H' → RM K p' F' M' H' → RE K p' F' env' σ' → ExcR K ca p' F' H' x cls dd → W cls dd σ' H'
theorem EndR.move {p p1 : Ph} {F F1 H H1 : Hp} {D : Ends} {r : Fl × Rf.Env × Mem} (s : Step p F H p1 F1 H1) (h : EndR K ca W p F H D r) : EndR K ca W p1 F1 H1 D r := by
  obtain ⟨f, env, M⟩ := r
  cases f with
  | nx => exact fun p' F' H' σ' s' => h p' F' H' σ' (s.trans s')
  | brk => exact fun p' F' H' σ' s' => h p' F' H' σ' (s.trans s')
  | cont => exact fun p' F' H' σ' s' => h p' F' H' σ' (s.trans s')
  | ret d => exact fun p' F' H' v s' => h p' F' H' v (s.trans s')
  | exc x => exact fun p' F' H' σ' c d s' => h p' F' H' σ' c d (s.trans s')
def tS (K : PySem.W.Frag) (ca : Nat → Addr) (W : WX) (f : Rf.Env → Mem → SRes) : TS := fun D σ H => ∃ p F env M r, RM K p F M H ∧ RE K p F env σ ∧ f env M = some r ∧ EndR K ca W p F H D r
/-- an evaluation within a statement -/
theorem At.to_ {α β : Type} {rel : Ph → Hp → β → α → Prop} {p : Ph} {F H : Hp} {env : Rf.Env} {σ : L2.St} {D : Ends} {r : Res α} {k : α → Mem → SRes} {r' : Fl × Rf.Env × Mem} (re : RE K p F env σ) (e : r.to env k = some r') (h : EndR K ca W p F H D r') :
    At K ca W σ rel p F H r fun v H1 => ∃ p1 F1 M1 d, Step p F H p1 F1 H1 ∧ RM K p1 F1 M1 H1 ∧ rel p1 F1 v d ∧ ∃ r', k d M1 = some r' ∧ EndR K ca W p1 F1 H1 D r' := by
  cases r with
  | none => cases e
  | some r =>
    cases r with
    | ok a M' => exact ⟨_, rfl, fun p' F' H' v s rm rl => ⟨p', F', M', a, s, rm, rl, r', e, h.move s⟩⟩
    | er x M' =>
      have e : some (Fl.exc x, env, M') = some r' := e
      cases e
      exact ⟨_, rfl, fun p' F' H' c d s rm x => h p' F' H' σ c d s rm (re.mono s.toLe) x⟩
theorem ps_imp {X : Cx} {st : Stmt} {t t' : TS} (h : PS X st t) (i : ∀ D σ H, t' D σ H → t D σ H) : PS X st t' := ⟨fun pins s σ H D I q => h.run pins s σ H D I (i D σ H q)⟩
theorem pss_imp {X : Cx} {st : List Stmt} {t t' : TS} (h : PSs X st t) (i : ∀ D σ H, t' D σ H → t D σ H) : PSs X st t' := ⟨fun pins s σ H D I q => h.run pins s σ H D I (i D σ H q)⟩
end
section
variable {X : Cx} {ca : Nat → Addr} {W : WX} {e a b c tg o i : Expr} {es : List Expr} {f g h : Rf.Env → Mem → Res D} {u v : Rf.Env → Mem → SRes} {st : Stmt} {sts sts' : List Stmt} {pos : Pos}
def nxS (env : Rf.Env) (M : Mem) : SRes := some (.nx, env, M)
theorem ss_nil : PSs X [] (tS X.K ca W nxS) := pss_imp pss_nil fun Z σ H ⟨p, F, env, M, r, rm, re, e, h⟩ => by
  cases e
  exact h p F H σ (Step.refl ..) rm re
def thenS (u v : Rf.Env → Mem → SRes) (env : Rf.Env) (M : Mem) : SRes := match u env M with
  | some (.nx, env, M) => v env M
  | r => r
theorem ss_cons (h1 : PS X st (tS X.K ca W u)) (h2 : PSs X sts (tS X.K ca W v)) : PSs X (st :: sts) (tS X.K ca W (thenS u v)) := by
  refine pss_imp (pss_cons h1 h2) fun Z σ H ⟨p, F, env, M, r, rm, re, e, h⟩ => ?_
  unfold thenS at e
  cases z : u env M with
  | none => rw [z] at e; cases e
  | some q =>
    refine ⟨p, F, env, M, q, rm, re, z, ?_⟩
    rw [z] at e
    obtain ⟨fl, env1, M1⟩ := q
    cases fl with
    | nx => exact fun p' F' H' σ' s rm' re' => ⟨p', F', env1, M1, r, rm', re', e, h.move s⟩
    | brk => cases e; exact h
    | cont => cases e; exact h
    | ret d => cases e; exact h
    | exc x => cases e; exact h
/-- a cell is frozen: nothing is done -/
def frzS (i : Nat) (env : Rf.Env) (M : Mem) : SRes := match env[i]? with
  | some (some d) => match eFrz M d with
    | some (d', M') => some (.nx, env.set i (some d'), M')
    | none => none
  | _ => none
theorem re_frz {K : PySem.W.Frag} {p : Ph} {F F' : Hp} {env : Rf.Env} {σ : L2.St} {i : Nat} {w : V} {d' : D} (l : Le p F p F') (re : RE K p F env σ) (hw : σ[i]? = some (some w)) (r : Rel K p F' w d') : RE K p F' (env.set i (some d')) σ := by
  refine ⟨by rw [List.length_set]; exact re.len, fun j d e => ?_⟩
  by_cases hj : i = j
  · subst hj
    by_cases hl : i < env.length
    · rw [List.getElem?_set_self hl] at e
      cases e
      exact ⟨w, hw, r⟩
    · rw [List.getElem?_eq_none (by rw [List.length_set]; omega)] at e
      cases e
  · rw [List.getElem?_set_ne hj] at e
    obtain ⟨v, h1, h2⟩ := re.get j d e
    exact ⟨v, h1, h2.mono l⟩
theorem ss_frz {j : Nat} (h2 : PSs X sts (tS X.K ca W v)) : PSs X sts (tS X.K ca W (thenS (frzS j) v)) := by
  refine pss_imp h2 fun Z σ H ⟨p, F, env, M, r, rm, re, e, h⟩ => ?_
  unfold thenS at e
  cases z : frzS j env M with
  | none => rw [z] at e; cases e
  | some q =>
    rw [z] at e
    unfold frzS at z
    split at z
    · rename_i d ed
      split at z
      · rename_i d' M2 ef
        cases z
        have e : v (env.set j (some d')) M2 = some r := e
        obtain ⟨w, hw, rw_⟩ := re.get _ _ ed
        cases rw_ with
        | @cell n a hn =>
          have ef : (match M[n]? with
            | some (.lst xs) => some (Rf.D.lst xs, putCell M n .dead)
            | some (.dic ks xs) => some (Rf.D.dic ks xs, putCell M n .dead)
            | _ => none) = some (d', M2) := ef
          split at ef
          · rename_i xs hm
            cases ef
            obtain ⟨hF, vs, h1, h3, h4⟩ := rm.cell _ _ _ hn hm (by intro z; cases z)
            have s := step_frz (o := .lst vs) rm hn hm (by intro z; cases z)
            have rm' := rm_frz rm hn hm (by intro z; cases z) h1
            exact ⟨p, _, _, _, r, rm', re_frz s.toLe re hw (.lst upd_same (h3.mono s.toLe)), e, h.move s⟩
          · rename_i ks xs hm
            cases ef
            obtain ⟨hF, vs, h1, h0, h3, h4⟩ := rm.cell _ _ _ hn hm (by intro z; cases z)
            have s := step_frz (o := .dK (ks.zip vs)) rm hn hm (by intro z; cases z)
            have rm' := rm_frz rm hn hm (by intro z; cases z) h1
            exact ⟨p, _, _, _, r, rm', re_frz s.toLe re hw (.dic (.inl upd_same) h0 (h3.mono s.toLe)), e, h.move s⟩
          · cases ef
        | _ => cases ef
      · cases z
    · cases z
theorem s_pass : PS X (.Pass pos) (tS X.K ca W nxS) := ps_imp ps_pass fun Z σ H ⟨p, F, env, M, r, rm, re, e, h⟩ => by
  cases e
  exact h p F H σ (Step.refl ..) rm re
theorem s_doc {x : Str} {j : Nat} {pos' : Pos} : PS X (.Expr (.Constant (.str x) j pos) pos') (tS X.K ca W nxS) := ps_imp ps_doc fun Z σ H ⟨p, F, env, M, r, rm, re, e, h⟩ => by
  cases e
  exact h p F H σ (Step.refl ..) rm re
def brkS (env : Rf.Env) (M : Mem) : SRes := some (.brk, env, M)
def contS (env : Rf.Env) (M : Mem) : SRes := some (.cont, env, M)
def retNS (env : Rf.Env) (M : Mem) : SRes := some (.ret .non, env, M)
theorem s_brk : PS X (.Break pos) (tS X.K ca W brkS) := ps_imp ps_break fun Z σ H ⟨p, F, env, M, r, rm, re, e, h⟩ => by
  cases e
  exact h p F H σ (Step.refl ..) rm re
theorem s_cont : PS X (.Continue pos) (tS X.K ca W contS) := ps_imp ps_continue fun Z σ H ⟨p, F, env, M, r, rm, re, e, h⟩ => by
  cases e
  exact h p F H σ (Step.refl ..) rm re
theorem s_retN : PS X (.Return none pos) (tS X.K ca W retNS) := ps_imp ps_retN fun Z σ H ⟨p, F, env, M, r, rm, re, e, h⟩ => by
  cases e
  exact h p F H _ (Step.refl ..) rm .non
def retS (f : Rf.Env → Mem → Res D) (env : Rf.Env) (M : Mem) : SRes := (f env M).to env fun x M => some (.ret x, env, M)
theorem s_ret (he : PE X e (tE X.K ca W f)) : PS X (.Return (some e) pos) (tS X.K ca W (retS f)) := ps_imp (ps_ret he) fun Z σ H ⟨p, F, env, M, r, rm, re, z, h⟩ => by
  refine ⟨p, F, env, M, rm, re, (At.to_ (rel := Rel X.K) re z h).imp fun v H1 ⟨p1, F1, M1, d, s1, rm1, r1, r', e1, h1⟩ => ?_⟩
  cases e1
  exact h1 _ _ _ _ (Step.refl ..) rm1 r1
def isCompE : Expr → Bool
  | .ListComp _ _ _ _ => true
  | .SetComp _ _ _ _ => true
  | .DictComp _ _ _ _ _ => true
  | _ => false
theorem noswap {t : Option Expr} {l : Nat} {env : PySem.Env} (hs : isCompE e = false) : swapsWith e t l env = pure false := by
  cases e <;> first | rfl | (cases hs)
def exS (f : Rf.Env → Mem → Res D) (env : Rf.Env) (M : Mem) : SRes := (f env M).to env fun _ M => some (.nx, env, M)
theorem s_ex (hs : isCompE e = false) (he : PE X e (tE X.K ca W f)) : PS X (.Expr e pos) (tS X.K ca W (exS f)) := ps_imp (ps_expr he (noswap hs)) fun Z σ H ⟨p, F, env, M, r, rm, re, z, h⟩ => by
  refine ⟨p, F, env, M, rm, re, (At.to_ (rel := Rel X.K) re z h).imp fun v H1 ⟨p1, F1, M1, d, s1, rm1, r1, r', e1, h1⟩ => ?_⟩
  cases e1
  exact h1 _ _ _ _ (Step.refl ..) rm1 (re.mono s1.toLe)
def iteS (f : Rf.Env → Mem → Res D) (u v : Rf.Env → Mem → SRes) (env : Rf.Env) (M : Mem) : SRes := (asB (f env M)).to env fun t M => if t then u env M else v env M
theorem s_ite (hc : PT X c (tT X.K ca W f)) (ha : PSs X sts (tS X.K ca W u)) (hb : PSs X sts' (tS X.K ca W v)) : PS X (.If c sts sts' pos) (tS X.K ca W (iteS f u v)) := by
  refine ps_imp (ps_if hc ha hb) fun Z σ H ⟨p, F, env, M, r, rm, re, z, h⟩ => ?_
  refine ⟨p, F, env, M, rm, re, (At.to_ (rel := eqB) re z h).imp fun t H1 ⟨p1, F1, M1, d, s1, rm1, r1, r', e1, h1⟩ => ?_⟩
  have r1 : t = d := r1
  subst r1
  cases t with
  | true => exact ⟨p1, F1, env, M1, r', rm1, re.mono s1.toLe, e1, h1⟩
  | false => exact ⟨p1, F1, env, M1, r', rm1, re.mono s1.toLe, e1, h1⟩
def asgS (tg : Tg) (f : Rf.Env → Mem → Res D) (env : Rf.Env) (M : Mem) : SRes := (f env M).to env fun x M => match asT tg x env with
  | some env => some (.nx, env, M)
  | none => none
theorem asg_read {t : Tg} {D : Ends} {σ : L2.St} {H : Hp} (h : tS X.K ca W (asgS t f) D σ H) : tAsg (tE X.K ca W f) (tTg X.K t) D σ H := by
  obtain ⟨p, F, env, M, r, rm, re, z, h⟩ := h
  refine ⟨p, F, env, M, rm, re, (At.to_ (rel := Rel X.K) re z h).imp fun x H1 ⟨p1, F1, M1, d, s1, rm1, r1, r', e1, h1⟩ => ?_⟩
  split at e1
  · rename_i env' ea
    cases e1
    exact ⟨p1, F1, env, M1, d, env', rm1, re.mono s1.toLe, r1, ea, fun σ' re' _ => h1 _ _ _ _ (Step.refl ..) rm1 re'⟩
  · cases e1
theorem s_asg {t : Tg} (hs : isCompE e = false) (ht : isStarT tg = false) (hw : swappedStores [tg] e X.env = pure none) (he : PE X e (tE X.K ca W f)) (hg : PG X tg (tTg X.K t)) : PS X (.Assign [tg] e pos) (tS X.K ca W (asgS t f)) := by
  refine ps_imp (ps_asg he hg (by unfold swapsWithSole; exact noswap hs) hw (by rw [each_cons ht]; rfl)) fun Z σ H h => asg_read h
theorem s_set {j : Nat} {x : Str} {pos' : Pos} (hN : X.N.Nodup) (hi : X.N[j]? = some x) (hx : Loc X.env.scope x) (hf : X.fn x = true ∨ X.env.scope.names.lookup x = some .local) (hs : swapsWith e (some (.Name x pos')) pos.line X.env = pure false) (he : PE X e (tE X.K ca W f)) :
    PS X (.Assign [.Name x pos'] e pos) (tS X.K ca W (asgS (.nm j) f)) := by
  refine ps_imp (ps_set hN hi hx he hs hf) fun Z σ H h => ?_
  obtain ⟨p, F, env, M, r, rm, re, z, h⟩ := h
  refine ⟨p, F, env, M, rm, re, (At.to_ (rel := Rel X.K) re z h).imp fun x H1 ⟨p1, F1, M1, d, s1, rm1, r1, r', e1, h1⟩ => ?_⟩
  have e1 : some (Fl.nx, env.set j (some d), M1) = some r' := e1
  cases e1
  exact h1 _ _ _ _ (Step.refl ..) rm1 ((re.mono s1.toLe).set r1)
/-- a, b = x, y by names, stored from the right -/
theorem s_par {j k : Nat} {x y : Str} {px py pt pt2 : Pos} {kt k2 : Nat} (hc : X.calm = true) (hN : X.N.Nodup) (hj : X.N[j]? = some x) (hk : X.N[k]? = some y) (hjk : j ≠ k) (hx : X.env.scope.names.lookup x = some .local) (hy : X.env.scope.names.lookup y = some .local)
    (hw : swappedStores [.Tuple [.Name x px, .Name y py] kt pt] (.Tuple [a, b] k2 pt2) X.env = pure (some [x, y])) {fs : Rf.Env → Mem → Res (List D)} (ha : PA X [a, b] (tEs X.K ca W fs)) :
    PS X (.Assign [.Tuple [.Name x px, .Name y py] kt pt] (.Tuple [a, b] k2 pt2) pos) (tS X.K ca W (asgS (.tp (.cons (.nm j) (.cons (.nm k) .nil))) fun env M => (fs env M).bind fun xs M => if xs.length ≤ sizeLine then ok (.tup xs) M else none)) := by
  refine ps_imp (ps_par hc hN hj hk hjk hx hy ha hw rfl) fun Z σ H ⟨p, F, env, M, r, rm, re, z, h⟩ => ?_
  have z1 : (fs env M).to env (fun xs M => if xs.length ≤ sizeLine then (match asT (.tp (.cons (.nm j) (.cons (.nm k) .nil))) (.tup xs) env with
    | some env => some (Fl.nx, env, M)
    | none => none) else none) = some r := by
    have z : ((fs env M).bind fun xs M => if xs.length ≤ sizeLine then ok (D.tup xs) M else none).to env (fun x M => match asT (.tp (.cons (.nm j) (.cons (.nm k) .nil))) x env with
      | some env => some (Fl.nx, env, M)
      | none => none) = some r := z
    cases q : fs env M with
    | none => rw [q] at z; cases z
    | some q' =>
      rw [q] at z
      cases q' with
      | er x M' => exact z
      | ok xs M' =>
        have z : (if xs.length ≤ sizeLine then ok (D.tup xs) M' else none).to env _ = some r := z
        show (if xs.length ≤ sizeLine then _ else none) = some r
        split at z
        · rename_i hl; rw [if_pos hl]; exact z
        · cases z
  refine ⟨p, F, env, M, rm, re, (At.to_ (rel := Rels X.K) re z1 h).imp fun vs H1 ⟨p1, F1, M1, ds, s1, rm1, r1, r', e1, h1⟩ => ?_⟩
  split at e1
  · have e1 : (match asTs (.cons (.nm j) (.cons (.nm k) .nil)) ds env with
      | some env => some (Fl.nx, env, M1)
      | none => none) = some r' := e1
    match ds, r1, e1 with
    | [d1, d2], .cons q1 (.cons q2 .nil), e1 =>
      have e1 : some (Fl.nx, (env.set j (some d1)).set k (some d2), M1) = some r' := e1
      cases e1
      exact ⟨_, _, rfl, h1 _ _ _ _ (Step.refl ..) rm1 (((re.mono s1.toLe).set q1).set q2)⟩
    | [], _, e1 => cases e1
    | [d1], .cons q1 .nil, e1 => cases e1
    | d1 :: d2 :: d3 :: ds, .cons q1 (.cons q2 (.cons q3 q4)), e1 => cases e1
  · cases e1
end
end Rf
end T_RfStmt
section T_RfStmt2
set_option Elab.async false
set_option linter.all false
set_option maxRecDepth 100000
set_option maxHeartbeats 1000000
/-! Rf: stores into cells, loops, raise -/
namespace Rf
open PySem PySem.Spec PyProof.Rows L2
/-! ### dicts written -/
theorem putD_keys {α β : Type} {ks : List Key} {xs : List α} {ys : List β} {k : Key} {v : α} {w : β} : (putD ks xs k v).1 = (putD ks ys k w).1 := by
  unfold putD
  split <;> rfl
theorem putD_len {α : Type} {ks : List Key} {xs : List α} {k : Key} {v : α} (h : ks.length = xs.length) : (putD ks xs k v).1.length = (putD ks xs k v).2.length := by
  unfold putD
  split
  · simp [h]
  · simp [h]
theorem map_fst {α : Type} {f : Key × α → α} : ∀ {ks : List Key} {xs : List α}, ks.length = xs.length → ks.zip ((ks.zip xs).map f) = (ks.zip xs).map fun p => (p.1, f p)
  | [], [], _ => rfl
  | k :: ks, x :: xs, h => by
    have ih := map_fst (f := f) (ks := ks) (xs := xs) (by simpa using h)
    simp [ih]
theorem putK_put {xs : List V} {ks : List Key} {k : Key} {v : V} (h : ks.length = xs.length) : putK (ks.zip xs) k v = (putD ks xs k v).1.zip (putD ks xs k v).2 := by
  have e : ((ks.zip xs).any fun kv => decide (kv.1 = k)) = ks.any fun j => decide (j = k) := by
    clear v
    induction ks generalizing xs with
    | nil => rfl
    | cons a ks ih =>
      cases xs with
      | nil => cases h
      | cons x xs => simp [ih (by simpa using h)]
  unfold putK putD
  rw [e]
  split
  · rw [map_fst h]
    refine List.map_congr_left fun p _ => ?_
    split <;> rfl
  · show ks.zip xs ++ [k].zip [v] = _
    exact (List.zip_append h).symm
theorem Rels.put {K : PySem.W.Frag} {p : Ph} {F : Hp} {k : Key} {v : V} {d : D} (r : Rel K p F v d) {ks : List Key} : ∀ {vs : List V} {ds : List D}, Rels K p F vs ds → Rels K p F (putD ks vs k v).2 (putD ks ds k d).2 := by
  intro vs ds rs
  unfold putD
  split
  · rename_i h
    clear h
    induction ks generalizing vs ds with
    | nil => simp; exact .nil
    | cons a ks ih =>
      cases rs with
      | nil => simp; exact .nil
      | cons q rs =>
        simp only [List.zip_cons_cons, List.map_cons]
        refine .cons ?_ (ih rs)
        by_cases e : a = k
        · rw [if_pos e, if_pos e]; exact r
        · rw [if_neg e, if_neg e]; exact q
  · exact rs.append (.cons r .nil)
section
variable {K : PySem.W.Frag} {p : Ph} {F H : Hp} {M M' : Mem}
theorem lows_append {n : Nat} : ∀ {a b : List D}, D.lows n a = true → D.lows n b = true → D.lows n (a ++ b) = true
  | [], _, _, h => h
  | x :: a, b, h, h' => lows_cons.mpr ⟨(lows_cons.mp h).1, lows_append (lows_cons.mp h).2 h'⟩
theorem lows_set {n : Nat} {v : D} (hv : v.low n = true) : ∀ {a : List D} {i : Nat}, D.lows n a = true → D.lows n (a.set i v) = true
  | [], _, h => h
  | x :: a, 0, h => lows_cons.mpr ⟨hv, (lows_cons.mp h).2⟩
  | x :: a, i + 1, h => lows_cons.mpr ⟨(lows_cons.mp h).1, lows_set hv (lows_cons.mp h).2⟩
theorem lows_put {n : Nat} {k : Key} {v : D} (hv : v.low n = true) : ∀ {ks : List Key} {a : List D}, D.lows n a = true → D.lows n (putD ks a k v).2 = true := by
  intro ks a h
  unfold putD
  split
  · rename_i h'
    clear h'
    induction ks generalizing a with
    | nil => rfl
    | cons b ks ih =>
      cases a with
      | nil => rfl
      | cons x a =>
        simp only [List.zip_cons_cons, List.map_cons]
        refine lows_cons.mpr ⟨?_, ih (lows_cons.mp h).2⟩
        split
        · exact hv
        · exact (lows_cons.mp h).1
  · exact lows_append h (lows_cons.mpr ⟨hv, rfl⟩)
theorem ixN_len {n m : Nat} {i : Int} (h : n = m) : ixN n i = ixN m i := by rw [h]
theorem setI_of {x y v : V} {dx dy dv : D} (rm : RM K p F M H) (rx : Rel K p F x dx) (ry : Rel K p F y dy) (rv : Rel K p F v dv) (h : eSetI M dx dy dv = some M') (Q : Hp → Prop) (q : ∀ H', Step p F H p F H' → RM K p F M' H' → Q H') : rSetL x y v H Q := by
  cases rx with
  | @cell n a hn =>
    cases ry with
    | int i =>
      have h : (match M[n]? with
        | some (.lst xs) => match ixN xs.length i with
          | some j => if dv.low 0 then some (putCell M n (.lst (xs.set j dv))) else none
          | none => none
        | _ => none) = some M' := h
      split at h
      · rename_i xs hm
        split at h
        · rename_i j hj
          split at h
          · rename_i hl
            cases h
            obtain ⟨_, vs, h1, h2, h3⟩ := rm.cell _ _ _ hn hm (by intro z; cases z)
            refine ⟨a, vs, i, j, rfl, rfl, h1, by rw [h2.length]; exact hj, q _ (step_set rm hn) (rm_set rm hn hm (by intro z; cases z) ⟨_, upd_same, h2.set rv j, lows_set hl h3⟩)⟩
          · cases h
        · cases h
      · cases h
    | _ => cases h
  | _ => cases h
theorem setD_of {x y v : V} {dx dy dv : D} (rm : RM K p F M H) (rx : Rel K p F x dx) (ry : Rel K p F y dy) (rv : Rel K p F v dv) (h : eSetD M dx dy dv = some M') : ∃ a H', x = .ref a ∧ DPut H a y v H' ∧ Step p F H p F H' ∧ RM K p F M' H' := by
  cases rx with
  | @cell n a hn =>
    have h : (match M[n]?, keyOf dy with
      | some (.dic ks xs), some k => if ks.length < sizeLine ∧ dv.low 0 = true then some (putCell M n (.dic (putD ks xs k dv).1 (putD ks xs k dv).2)) else none
      | _, _ => none) = some M' := h
    split at h
    · rename_i ks xs k hm hk
      split at h
      · rename_i hl
        cases h
        obtain ⟨_, vs, h1, h0, h2, h3⟩ := rm.cell _ _ _ hn hm (by intro z; cases z)
        have ek := key_V ry hk
        subst ek
        refine ⟨a, _, rfl, DPut.k h1 ?_, step_set rm hn, rm_set rm hn hm (by intro z; cases z) ⟨(putD ks vs k v).2, ?_, ?_, h2.put rv, lows_put hl.2 h3⟩⟩
        · rw [List.length_zip, h0, Nat.min_self, ← h0]; exact hl.1
        · rw [putK_put h0, upd_same]
          rw [putD_keys (ks := ks) (xs := xs) (ys := vs) (w := v)]
        · rw [putD_keys (ks := ks) (xs := xs) (ys := vs) (w := v)]
          exact putD_len h0
      · cases h
    · cases h
  | _ => cases h
end
section
variable {X : Cx} {ca : Nat → Addr} {W : WX} {e a b c tg o i iter : Expr} {es : List Expr} {f g h : Rf.Env → Mem → Res D} {u v : Rf.Env → Mem → SRes} {st : Stmt} {sts sts' : List Stmt} {pos pos' : Pos}
def setIS (f g h : Rf.Env → Mem → Res D) (env : Rf.Env) (M : Mem) : SRes := (h env M).to env fun v M => (f env M).to env fun x M => (g env M).to env fun y M => match eSetI M x y v with
  | some M => some (.nx, env, M)
  | none => none
theorem s_setI (hs : isCompE e = false) (hi : isSlice i = false) (ho : PE X o (tE X.K ca W f)) (hi' : PE X i (tE X.K ca W g)) (he : PE X e (tE X.K ca W h)) :
    PS X (.Assign [.Subscript o i pos'] e pos) (tS X.K ca W (setIS f g h)) := by
  refine ps_imp (ps_asg he (pg_sub ho hi' set_list (by intro v; cases i <;> first | rfl | (cases hi))) (by unfold swapsWithSole; exact noswap hs) (by rfl) rfl) fun Z σ H ⟨p, F, env, M, r, rm, re, z, hr⟩ => ?_
  refine ⟨p, F, env, M, rm, re, (At.to_ (rel := Rel X.K) re z hr).imp fun v H1 ⟨p1, F1, M1, dv, s1, rm1, r1, r', e1, h1⟩ => ?_⟩
  have re1 := re.mono s1.toLe
  refine ⟨p1, F1, env, M1, rm1, re1, (At.to_ (rel := Rel X.K) re1 e1 h1).imp fun x H2 ⟨p2, F2, M2, dx, s2, rm2, r2, r'', e2, h2⟩ => ?_⟩
  have re2 := re1.mono s2.toLe
  refine ⟨p2, F2, env, M2, rm2, re2, (At.to_ (rel := Rel X.K) re2 e2 h2).imp fun y H3 ⟨p3, F3, M3, dy, s3, rm3, r3, r3', e3, h3⟩ => ?_⟩
  split at e3
  · rename_i M4 e4
    cases e3
    exact setI_of rm3 (r2.mono s3.toLe) r3 ((r1.mono s2.toLe).mono s3.toLe) e4 _ fun H' s rm' => h3 _ _ _ _ s rm' ((re2.mono s3.toLe).mono s.toLe)
  · cases e3
def setDS (f g h : Rf.Env → Mem → Res D) (env : Rf.Env) (M : Mem) : SRes := (h env M).to env fun v M => (f env M).to env fun x M => (g env M).to env fun y M => match eSetD M x y v with
  | some M => some (.nx, env, M)
  | none => none
theorem s_setD (hu : X.A.units + 1 < cLine) (hs : isCompE e = false) (ho : PE X o (tE X.K ca W f)) (hi' : PE X i (tE X.K ca W g)) (he : PE X e (tE X.K ca W h)) :
    PS X (.Assign [.Subscript o i pos'] e pos) (tS X.K ca W (setDS f g h)) := by
  refine ps_imp (ps_dput hu ho hi' he (noswap hs)) fun Z σ H ⟨p, F, env, M, r, rm, re, z, hr⟩ => ?_
  refine ⟨p, F, env, M, rm, re, (At.to_ (rel := Rel X.K) re z hr).imp fun v H1 ⟨p1, F1, M1, dv, s1, rm1, r1, r', e1, h1⟩ => ?_⟩
  have re1 := re.mono s1.toLe
  refine ⟨p1, F1, env, M1, rm1, re1, (At.to_ (rel := Rel X.K) re1 e1 h1).imp fun x H2 ⟨p2, F2, M2, dx, s2, rm2, r2, r'', e2, h2⟩ => ?_⟩
  have re2 := re1.mono s2.toLe
  refine ⟨p2, F2, env, M2, rm2, re2, (At.to_ (rel := Rel X.K) re2 e2 h2).imp fun y H3 ⟨p3, F3, M3, dy, s3, rm3, r3, r3', e3, h3⟩ => ?_⟩
  split at e3
  · rename_i M4 e4
    cases e3
    obtain ⟨a, H', q1, q2, q3, q4⟩ := setD_of rm3 (r2.mono s3.toLe) r3 ((r1.mono s2.toLe).mono s3.toLe) e4
    exact ⟨a, H', q1, q2, h3 _ _ _ _ q3 q4 ((re2.mono s3.toLe).mono q3.toLe)⟩
  · cases e3
def appS (f h : Rf.Env → Mem → Res D) (env : Rf.Env) (M : Mem) : SRes := (f env M).to env fun x M => match isLc M x with
  | none => none
  | some _ => (h env M).to env fun v M => match eApp M x v with
    | some M => some (.nx, env, M)
    | none => none
theorem app_of {K : PySem.W.Frag} {p : Ph} {F H : Hp} {M M' : Mem} {x v : V} {dx dv : D} (rm : RM K p F M H) (rx : Rel K p F x dx) (rv : Rel K p F v dv) (h : eApp M dx dv = some M') (Q : Hp → Prop) (q : ∀ H', Step p F H p F H' → RM K p F M' H' → Q H') : rAppend x [v] H fun _ H' => Q H' := by
  cases rx with
  | @cell n a hn =>
    have h : (match M[n]? with
      | some (.lst xs) => if xs.length < sizeLine ∧ dv.low 0 = true then some (putCell M n (.lst (xs ++ [dv]))) else none
      | _ => none) = some M' := h
    split at h
    · rename_i xs hm
      split at h
      · rename_i hl
        cases h
        obtain ⟨_, vs, h1, h2, h3⟩ := rm.cell _ _ _ hn hm (by intro z; cases z)
        exact ⟨a, vs, v, rfl, rfl, h1, by rw [h2.length]; exact hl.1, q _ (step_set rm hn) (rm_set rm hn hm (by intro z; cases z) ⟨_, upd_same, h2.append (.cons rv .nil), lows_append h3 (lows_cons.mpr ⟨hl.2, rfl⟩)⟩)⟩
      · cases h
    · cases h
  | _ => cases h
theorem few1 {cpos : Pos} (h : isStar e = false) : ((backTo cpos (starEach [e] X.env)).all (fun x => !x.1) && (backToKw cpos (keywordEach [] X.env)).all (fun x => x.1.isSome)
      && decide ([e].length + ([] : List Keyword).length + (if ([] : List Keyword).isEmpty then 0 else 1) < 30)) = true := by
  rw [star_cons h]; rfl
theorem s_app {apos cpos : Pos} (hp : plainRecv o = true) (hl : (apos.endLine == cpos.line) = true) (hs : isStar e = false) (ho : PE X o (tE X.K ca W f)) (he : PE X e (tE X.K ca W h)) :
    PS X (.Expr (.Call (.Attribute o "append" apos) [e] [] cpos) pos) (tS X.K ca W (appS f h)) := by
  have hp : PE X (.Call (.Attribute o "append" apos) [e] [] cpos) (tBM X.K "list" rAppend (tE X.K ca W f) (tCons (tE X.K ca W h) tNil)) :=
    pe_bm PySem.F.plainAttrs_list PySem.F.slot_list_append PySem.F.type_list_append mt_append ho (pa_cons he pa_nil (star_cons hs)) (base_of hp) (few1 hs) hl (star_cons hs) rfl
  refine ps_imp (ps_expr hp rfl) fun Z σ H ⟨p, F, env, M, r, rm, re, z, hr⟩ => ?_
  refine ⟨p, F, env, M, rm, re, (At.to_ (rel := Rel X.K) re z hr).imp fun x H1 ⟨p1, F1, M1, dx, s1, rm1, r1, r', e1, h1⟩ => ?_⟩
  have re1 := re.mono s1.toLe
  split at e1
  · cases e1
  · rename_i u hu
    refine ⟨?_, p1, F1, env, M1, rm1, re1, (At.to_ (rel := Rel X.K) re1 e1 h1).imp fun v H2 ⟨p2, F2, M2, dv, s2, rm2, r2, r'', e2, h2⟩ => ?_⟩
    · cases r1 with
      | @cell n a hn =>
        have hu : (match M1[n]? with
          | some (.lst _) => some ()
          | _ => none) = some u := hu
        split at hu
        · rename_i xs hm
          obtain ⟨_, vs, q1, _⟩ := rm1.cell _ _ _ hn hm (by intro z; cases z)
          exact .inl ⟨rfl, vs, .inl (.inl q1)⟩
        · cases hu
      | _ => cases hu
    · split at e2
      · rename_i M4 e4
        cases e2
        exact app_of rm2 (r1.mono s2.toLe) r2 e4 _ fun H' s rm' => h2 _ _ _ _ s rm' ((re1.mono s2.toLe).mono s.toLe)
      · cases e2
/-! ### loops -/
def forIS {t : Tg} (fi : Rf.Env → Mem → Res (List D)) (u : Rf.Env → Mem → SRes) (env : Rf.Env) (M : Mem) : SRes := (fi env M).to env fun xs M => forS t u xs env M
theorem s_for {t : Tg} {fi : Rf.Env → Mem → Res (List D)} (hp : PassesOwn (model X.prog X.w) X.A X.env X.xe) (hc : X.calm = true) (hs : isSetE iter = false) (hi : PI X tg iter (tI X.K ca W fi)) (hg : PG X tg (tTg X.K t)) (hb : PSs X sts (tS X.K ca W u)) :
    PS X (.For tg iter sts [] pos) (tS X.K ca W (forIS (t := t) fi u)) := by
  refine ps_imp (ps_for hp hc hi hg hb (folded hs)) fun Z σ H ⟨p, F, env, M, r, rm, re, z, hr⟩ => ?_
  refine ⟨p, F, env, M, rm, re, (At.to_ (rel := Wk X.K) re z hr).imp fun J H1 ⟨p1, F1, M1, ds, s1, rm1, w1, r', e1, h1⟩ => ?_⟩
  refine ⟨fun i m σ H => m = ds.length - i ∧ i ≤ ds.length ∧ ∃ p2 F2 env2 M2 r2, Le p1 F1 p2 F2 ∧ RM X.K p2 F2 M2 H ∧ RE X.K p2 F2 env2 σ ∧ forS t u (ds.drop i) env2 M2 = some r2 ∧ EndR X.K ca W p2 F2 H Z r2, ⟨ds.length, by simp, Nat.zero_le _, p1, F1, env, M1, r', Le.refl .., rm1, re.mono s1.toLe, by rw [List.drop_zero]; exact e1, h1⟩, ?_⟩
  rintro i m σ2 H2 ⟨rfl, hi, p2, F2, env2, M2, r2, l2, rm2, re2, e2, h2⟩
  by_cases hlt : i < ds.length
  · refine .inr ?_
    have hx : ds[i]? = some ds[i] := List.getElem?_eq_getElem hlt
    have hd : ds.drop i = ds[i] :: ds.drop (i + 1) := List.drop_eq_getElem_cons hlt
    obtain ⟨g1, g2⟩ := w1.go p2 F2 H2 M2 i ds[i] l2 rm2 hx
    refine ⟨g1, fun σ' H' => ∃ p2 F2 env2 M2 r2, Le p1 F1 p2 F2 ∧ RM X.K p2 F2 M2 H' ∧ RE X.K p2 F2 env2 σ' ∧ forS t u (ds.drop (i + 1)) env2 M2 = some r2 ∧ EndR X.K ca W p2 F2 H' Z r2, fun σ' H' h => ⟨ds.length - (i + 1), by omega, rfl, hlt, h⟩, fun v H' y => ?_⟩
    obtain ⟨F3, s3, rm3, r3⟩ := g2 v H' y
    rw [hd] at e2
    unfold forS at e2
    split at e2
    · cases e2
    · rename_i env3 ea
      refine ⟨p2, F3, env2, M2, ds[i], env3, rm3, re2.mono s3.toLe, r3, ea, fun σ3 re3 _ => ?_⟩
      cases zu : u env3 M2 with
      | none => rw [zu] at e2; cases e2
      | some q =>
        rw [zu] at e2
        refine ⟨p2, F3, env3, M2, q, rm3, re3, zu, ?_⟩
        have h3 := h2.move s3
        obtain ⟨fl, env4, M4⟩ := q
        cases fl with
        | nx => exact fun p' F' H'' σ' s' rm' re' => ⟨p', F', env4, M4, r2, (l2.trans s3.toLe).trans s'.toLe, rm', re', e2, h3.move s'⟩
        | cont => exact fun p' F' H'' σ' s' rm' re' => ⟨p', F', env4, M4, r2, (l2.trans s3.toLe).trans s'.toLe, rm', re', e2, h3.move s'⟩
        | brk => cases e2; exact h3
        | ret d => cases e2; exact h3
        | exc x => cases e2; exact h3
  · have e : i = ds.length := by omega
    subst e
    refine .inl ⟨w1.stop p2 F2 H2 M2 l2 rm2, ?_⟩
    rw [List.drop_length] at e2
    cases e2
    exact h2 p2 F2 H2 σ2 (Step.refl ..) rm2 re2
theorem s_whl (hp : PassesOwn (model X.prog X.w) X.A X.env X.xe) (hc : PT X c (tT X.K ca W f)) (hb : PSs X sts (tS X.K ca W u)) : PS X (.While c sts [] pos) (tS X.K ca W (whileS f u)) := by
  refine ps_imp (ps_while hp hc hb) fun Z σ H ⟨p, F, env, M, r, rm, re, z, hr⟩ => ?_
  unfold whileS at z
  split at z
  · rename_i hx
    refine ⟨fun n σ H => ∃ p F env M r, RM X.K p F M H ∧ RE X.K p F env σ ∧ turns f u n env M = some r ∧ EndR X.K ca W p F H Z r, ⟨_, p, F, env, M, r, rm, re, z, hr⟩, ?_⟩
    rintro n σ1 H1 ⟨p1, F1, env1, M1, r1, rm1, re1, e1, h1⟩
    cases n with
    | zero => cases e1
    | succ n =>
      have e1 : (asB (f env1 M1)).to env1 (fun t M => if t then match u env1 M with
        | some (.nx, e, M) => turns f u n e M
        | some (.cont, e, M) => turns f u n e M
        | some (.brk, e, M) => some (.nx, e, M)
        | r => r
      else some (.nx, env1, M)) = some r1 := e1
      refine ⟨p1, F1, env1, M1, rm1, re1, (At.to_ (rel := eqB) re1 e1 h1).imp fun t H2 ⟨p2, F2, M2, d, s2, rm2, r2, r', e2, h2⟩ => ?_⟩
      have r2 : t = d := r2
      subst r2
      have re2 := re1.mono s2.toLe
      cases t with
      | false =>
        cases e2
        rw [if_neg Bool.false_ne_true]
        exact h2 _ _ _ _ (Step.refl ..) rm2 re2
      | true =>
        rw [if_pos rfl] at e2 ⊢
        refine ⟨fun σ' H' => ∃ p F env M r, RM X.K p F M H' ∧ RE X.K p F env σ' ∧ turns f u n env M = some r ∧ EndR X.K ca W p F H' Z r, fun σ' H' h => ⟨n, Nat.lt_succ_self _, h⟩, ?_⟩
        cases zu : u env1 M2 with
        | none => rw [zu] at e2; cases e2
        | some q =>
          rw [zu] at e2
          refine ⟨p2, F2, env1, M2, q, rm2, re2, zu, ?_⟩
          obtain ⟨fl, env4, M4⟩ := q
          cases fl with
          | nx => exact fun p' F' H'' σ' s' rm' re' => ⟨p', F', env4, M4, r', rm', re', e2, h2.move s'⟩
          | cont => exact fun p' F' H'' σ' s' rm' re' => ⟨p', F', env4, M4, r', rm', re', e2, h2.move s'⟩
          | brk => cases e2; exact h2
          | ret d => cases e2; exact h2
          | exc x => cases e2; exact h2
  · cases z
/-! ### raise -/
def raisS (k : Nat) (env : Rf.Env) (M : Mem) : SRes := some (.exc ⟨k, none⟩, env, M)
theorem s_rais {k : Nat} {bmB : List Value} {B newId initId : String} {x m : Str} {j : Nat} {p p2 pos2 : Pos} (hc : X.calm = true) (tk : Takes X W) (Fe : ExcBaseFacts B newId initId bmB) (q : PySem.W.excIn X.K (ca k) bmB newId = true) (gC : X.mg x = some (.ref (ca k)))
    (kC : PySem.W.keepIn X.K (.ref (ca k)) = true) (r : Raises X (.ref (ca k))) (hg : Gl X x) (hdb : (x == ("__debug__" : Str)) = false) :
    PS X (.Raise (some (.Call (.Name x p) [.Constant (.str m) j p2] [] pos)) none pos2) (tS X.K ca W (raisS k)) := by
  refine ps_imp (ps_raise hc tk (pmk_own Fe q gC kC r hg hdb)) fun Z σ H ⟨p, F, env, M, r, rm, re, z, hr⟩ => ?_
  cases z
  exact hr _ _ _ _ _ _ (Step.refl ..) rm re ⟨rfl, trivial⟩
/-! ### a comprehension into a local -/
theorem s_setLc {j : Nat} {y : Str} {py spos : Pos} {elt tgE : Expr} {scope : Scope} {own : List (Str × Nat)} {fi : Rf.Env → Mem → Res (List D)} {fc fe : Rf.Env → Mem → Res D} {t : Tg} (hc : X.calm = true) (hN : X.N.Nodup) (hy : X.N[j]? = some y) (hyl : X.env.scope.names.lookup y = some .local)
    (hk : X.env.scope.kind = .function) (hl : (py.line == pos.line) = true) (hn : (scope.names.any fun (n, k) => n == y && (k == .local || k == .cell)) = false)
    (hi : PI X tgE iter (tI X.K ca W fi)) (ok : BlkOk X.N X.env.scope scope own) (hv : own.map (·.2) = t.slots)
    (hg : ∀ (s : Shared) (H : Hp) (C : Addr) (cl : List (Str × Addr)) (fp : List Addr), PG (X.blk s H scope (compEnvC scope cl C X.env) fp) tgE (tTg X.K t))
    (he : ∀ (s : Shared) (H : Hp) (C : Addr) (cl : List (Str × Addr)) (fp : List Addr), PE (X.blk s H scope (compEnvC scope cl C X.env) fp) elt (tE X.K ca WF fe)) (hs : isSetE iter = false) :
    PS X (.Assign [.Name y py] (.ListComp elt [⟨tgE, iter, [], 0⟩] scope pos) spos) (tS X.K ca W (asgS (.nm j) (lcF fi (fun _ M => Rf.ok (.bl true) M) fe t))) := by
  refine ps_imp (ps_setLc hc hN hy hyl (sw_true hk hyl hl hn) hi ok hg (fun s H C cl fp => pts_nil) he (folded hs)) fun Z σ H h => ?_
  obtain ⟨p, F, env, M, r, rm, re, z, h⟩ := h
  refine lc_read hv (fun _ _ _ h => yes_read h) ⟨p, F, env, M, rm, re, (At.to_ (rel := Rel X.K) re z h).imp fun x H1 ⟨p1, F1, M1, d, s1, rm1, r1, r', e1, h1⟩ => ?_⟩
  have e1 : some (Fl.nx, env.set j (some d), M1) = some r' := e1
  cases e1
  exact h1 _ _ _ _ (Step.refl ..) rm1 ((re.mono s1.toLe).set r1)
theorem s_setLcIf {j : Nat} {y : Str} {py spos : Pos} {elt tgE : Expr} {scope : Scope} {own : List (Str × Nat)} {fi : Rf.Env → Mem → Res (List D)} {fc fe : Rf.Env → Mem → Res D} {t : Tg} (hc : X.calm = true) (hN : X.N.Nodup) (hy : X.N[j]? = some y) (hyl : X.env.scope.names.lookup y = some .local)
    (hk : X.env.scope.kind = .function) (hl : (py.line == pos.line) = true) (hn : (scope.names.any fun (n, k) => n == y && (k == .local || k == .cell)) = false)
    (hi : PI X tgE iter (tI X.K ca W fi)) (ok : BlkOk X.N X.env.scope scope own) (hv : own.map (·.2) = t.slots)
    (hg : ∀ (s : Shared) (H : Hp) (C : Addr) (cl : List (Str × Addr)) (fp : List Addr), PG (X.blk s H scope (compEnvC scope cl C X.env) fp) tgE (tTg X.K t))
    (ht : ∀ (s : Shared) (H : Hp) (C : Addr) (cl : List (Str × Addr)) (fp : List Addr), PT (X.blk s H scope (compEnvC scope cl C X.env) fp) c (tT X.K ca WF fc))
    (he : ∀ (s : Shared) (H : Hp) (C : Addr) (cl : List (Str × Addr)) (fp : List Addr), PE (X.blk s H scope (compEnvC scope cl C X.env) fp) elt (tE X.K ca WF fe)) (hs : isSetE iter = false) :
    PS X (.Assign [.Name y py] (.ListComp elt [⟨tgE, iter, [c], 0⟩] scope pos) spos) (tS X.K ca W (asgS (.nm j) (lcF fi fc fe t))) := by
  refine ps_imp (ps_setLc hc hN hy hyl (sw_true hk hyl hl hn) hi ok hg (fun s H C cl fp => pts_one (ht s H C cl fp)) he (folded hs)) fun Z σ H h => ?_
  obtain ⟨p, F, env, M, r, rm, re, z, h⟩ := h
  refine lc_read hv (fun _ _ _ h => h) ⟨p, F, env, M, rm, re, (At.to_ (rel := Rel X.K) re z h).imp fun x H1 ⟨p1, F1, M1, d, s1, rm1, r1, r', e1, h1⟩ => ?_⟩
  have e1 : some (Fl.nx, env.set j (some d), M1) = some r' := e1
  cases e1
  exact h1 _ _ _ _ (Step.refl ..) rm1 ((re.mono s1.toLe).set r1)
end
end Rf
end T_RfStmt2
section T_RfLine
set_option Elab.async false
set_option linter.all false
set_option maxRecDepth 100000
set_option maxHeartbeats 2000000
/-! Rf: an own error whose __init__ says super().__init__('..') and keeps its argument as line -/
namespace PySem
namespace LineX
open PySem.W PySem.Calls PyProof.Rows PySem.HandSPX
def iA (p1 p2 : Pos) : Arguments := { posonlyargs := [], args := [{ arg := "self", annotation := none, pos := p1 }, { arg := "line", annotation := none, pos := p2 }], vararg := none, kwonlyargs := [], kw_defaults := [], kwarg := none, defaults := [] }
structure Ps where
  a : Pos
  b : Pos
  c : Pos
  d : Pos
  e : Pos
  f : Pos
  g : Pos
  h : Pos
  i : Pos
  j : Pos
  m : Str
  k : Nat
def iB (q : Ps) : List Stmt := [.Expr (.Call (.Attribute (.Call (.Name "super" q.a) [] [] q.b) "__init__" q.c) [.Constant (.str q.m) q.k q.d] [] q.e) q.f, .Assign [.Attribute (.Name "self" q.g) "line" q.h] (.Name "line" q.i) q.j]
def iS : Scope := { kind := .function, names := [(PySem.Str.ofString "self", .local), (PySem.Str.ofString "line", .local), (PySem.Str.ofString "__class__", .free), (PySem.Str.ofString "super", .globalImplicit)], isGenerator := false, isCoroutine := false, more := [] }
/-- what the written part says of the class, at C, and of its __init__, at fI -/
structure LineTxt (pf : Str) (K : Frag) (C fI : Addr) : Prop where
  cls : ∃ nm q N bs bm sn sub ab col dd k0 k1 k2 k3 k5, K.lookup C = some (excClassObj nm q C N bs bm true sn sub ab col dd k0 k1 k2 k3 k5 "ValueError.__new__") ∧ HandSPX.refsVE bm = true
  sa : findIn K (.ref C) "__setattr__" = some (some (.builtin "object.__setattr__"))
  ga : findIn K (.ref C) "__getattribute__" = some (some (.builtin "BaseException.__getattribute__"))
  gg : findIn K (.ref C) "__getattr__" = some none
  noN : findIn K (.ref C) "line" = some none
  iC : findIn K (.ref C) "__init__" = some (some (.ref fI))
  tC : typeIn K (.ref fI) = some (.type "function")
  kC : keepIn K (.ref C) = true
  exC : subIn K (.ref C) (.type "BaseException") = some true
  veC : subIn K (.ref C) (.type "ValueError") = some true
  tyC : typeIn K (.ref C) = some (.type "type")
  hdC : hasDictIn K C = true
  te : exmOne K (.ref C) (.ref C) = some true
  mr : mroIn K C (.ref C) = some true
  sup : ks_superIn K C C "__init__" = some (some (.builtin "ValueError.__init__"))
  any : nsIn K cStatics "thirdparty.any" = some none
  fn : ∃ (oc : Value) (od : Option Addr) (doc pm : Value) (an : Option Addr) (cda cc : Addr) (ct : Value) (osl : Array (Option Value)) (p1 p2 : Pos) (q : Ps) (qn : Str),
    (q.c.endLine == q.e.line) = true ∧ K.lookup fI = some ⟨oc, od, .func (ksFn "__init__" qn (iA p1 p2) (iB q) iS .none .none doc pm an (.ref cda) ct cc), osl⟩ ∧ codeIn K (.ref cda) qn = true ∧
    (∃ c1 d1 vs s1 file tf, K.lookup cda = some ⟨c1, d1, .fields vs, s1⟩ ∧ vs[2]? = some (.str file tf) ∧ (pf == file) = true) ∧
    ∃ c2 d2 s2, K.lookup cc = some ⟨c2, d2, .cell (some (.ref C)), s2⟩
/-- what __init__ leaves of a fresh exception at x -/
structure InitEnd (h h' : Heap) (x C dx : Addr) (v : Value) : Prop where
  keep : ∀ b o, b ≠ x → h.get? b = some o → h'.get? b = some o
  obj : ∃ t1, h'.get? x = some { cls := .ref C, dict := some dx, data := .fields #[.ref t1, .none, .none, .none, .bool false, .none] }
  dbig : h.objs.size ≤ dx
  dne : dx ≠ x
  ns : h'.Ns1 dx (fun y => if y = "line" then some v else none)
/-- a made one -/
structure OwnMade (h h' : Heap) (e C d : Addr) (v : Value) : Prop where
  keep : ∀ b o, h.get? b = some o → h'.get? b = some o
  new : h.objs.size ≤ e
  obj : ∃ t1, h'.get? e = some { cls := .ref C, dict := some d, data := .fields #[.ref t1, .none, .none, .none, .bool false, .none] }
  dbig : h.objs.size ≤ d
  dne : d ≠ e
  ns : h'.Ns1 d (fun y => if y = "line" then some v else none)
theorem one_size (v : Value) : [v].length ≤ sizeLine := by
  rw [sizeLine_eq]
  exact (by decide : 1 ≤ 16777216)
section
variable {prog : Program} {w : World} {A : Around} {E : Value → Shared → Prop} {R : Result → Shared → Prop} {s : Shared} {K : Frag} {mg : Str → Option Value} {base : Heap} {C fI : Addr}
/-- super().__init__(m) called: the bound wrapper -/
theorem mw_call {x u t0 : Addr} {rest : List Value} {Q : Value → Shared → Prop} (T : LineTxt prog.main.file K C fI) (X : K.In s.heap) (hu : s.heap.get? u = some (kxs_mw "ValueError.__init__" x)) (hx : s.heap.get? x = some (HandSPX.excO C t0)) (hz : rest.length ≤ sizeLine)
    (h : ∀ h', (∀ b o, b ≠ x → s.heap.get? b = some o → h'.get? b = some o) → h'.get? x = some (HandSPX.excO C s.heap.objs.size) → Q .none { s with heap := h' }) :
    wpAny (model prog w) A (call (.ref u) rest) Q E s := by
  obtain ⟨nm, q, N, bs, bm, sn, sub, ab, col, dd, k0, k1, k2, k3, k5, hC, hbm⟩ := T.cls
  have hC' := X _ _ hC
  obtain ⟨hh, g, d, tk, os⟩ := s
  refine wpAny_call (codeAny_of_tree ?_)
  show wpAny _ A.in1 (callAny (.ref u) ⟨rest, []⟩) _ _ _
  simp only [callAny]
  refine wpAny_bind (wpAny_load hu ?_)
  simp only [kxs_mw, show (Value.type "method-wrapper" == Value.type "method" || Value.type "method-wrapper" == Value.type "builtin_function_or_method" || Value.type "method-wrapper" == Value.type "method-wrapper") = true by decide, if_true]
  refine KFB.if_so (by decide) ?_
  refine wpAny_bind (check_bound_init PySem.F.excBase_ValueError.toExcCallFacts hC' hx rfl ?_)
  refine wpAny_bind (wpAny_pure (wpAny_pure ?_))
  refine ⟨plainId_quiet PySem.F.excBase_ValueError.init.plain _, codeAny_builtin PySem.F.excBase_ValueError.initEntry ?_⟩
  exact exc_init_tree (cls := .ref C) (t0 := t0) (dv := none) (c2 := .none) (c3 := .none) (b4 := .bool false) hx hz fun h' k e' _ => h h' k e'
theorem ldX {M : Model} {name : Str} {scope : Scope} {L a cc : Addr} {cd : Value} {m : Str → Option Value} {x : Str} {pos : Pos} {v : Value} {Q : Value → Shared → Prop} (hn : s.heap.Ns L m) (hv : m x = some v) (h : Q v s)
    (hk : scope.kind = .function := by rfl) (hl : (ksEnv name scope L a cd cc).kindOf x = some .local := by rfl) (hd : (x == ("__debug__" : Str)) = false := by decide) :
    wpAny M A (eval (.Name x pos) (ksEnv name scope L a cd cc)) Q E s := wpAny_Name (wpAny_loadName_local hk hl hn hv h) hd
/-- o.name(args), the base read at the code -/
theorem at_meth {c : Code} {env : Env} {o : Expr} {name : Str} {apos pos : Pos} {args : List Expr} {Q : Value → Shared → Prop}
    (hform : methodCallForm (args.length + ([] : List Keyword).length) (backTo pos (starEach args env)) (backToKw pos (keywordEach [] env)) = true) (hline : (apos.endLine == pos.line) = true)
    (h : _root_.PySem.wpAt (model prog w) A c (attributeBase o name env (eval o env)) (fun ov s₁ => ∀ pl : Sem Bool, wpAny (model prog w) A (getMethod ov name pl) (fun fx s₂ => wpAny (model prog w) A (callWith pos fx.1 fx.2 (backTo pos (starEach args env)) []) Q E s₂) E s₁) E s) :
    _root_.PySem.wpAt (model prog w) A c (eval (.Call (.Attribute o name apos) args [] pos) env) Q E s := by
  rw [arm_eval_Call]
  have hpos : methodCallPos true o env apos pos = pure pos := by unfold methodCallPos; simp [hline]
  refine wpAt_bind (ks_wpAt_mono h (fun ov s₁ h₁ => wpAt_of_wpAny (wpAny_bind (wpAny_standAt ?_))) fun _ _ x => x)
  unfold methodCall
  rw [hform]
  refine wpAny_bind (wpAny_holding ?_)
  unfold calleeOf
  simp only [if_true]
  refine wpAny_mono (h₁ _) (fun fx s₂ h₂ => ?_) fun _ _ x => x
  exact wpAny_bind (wpAny_of_eq hpos h₂)
theorem line_init (T : LineTxt prog.main.file K C fI) (MD : L2.Mod K mg base) (htop : (prog.main.scope.names.lookup ("super" : Str)).isSome = false) (hs0 : mg "super" = none) {x t0 : Addr} {v : Value} (bk : ∀ b o, base.get? b = some o → s.heap.get? b = some o) (hx : s.heap.get? x = some (HandSPX.excO C t0)) (hnx : base.get? x = none) (hlim : s.heap.NoLimit) (hroom : A.depth < recursionLimit)
    (hq : ∀ h' tk dx, InitEnd s.heap h' x C dx v → R (.ok (.ret .none)) { s with heap := h', toks := tk }) :
    codeAny (model prog w) A (.call (.ref fI) ⟨[.ref x, v], []⟩) R s := by
  obtain ⟨oc, od, doc, pm, an, cda, cc, ct, osl, p1, p2, q, qn, hel, ho, hcd, ⟨c1, d1, vs, s1, file, tf, hcode, hvs, hfile⟩, c2, d2, s2, hcell⟩ := T.fn
  obtain ⟨nm, qq, N, bs, bm, sn, sub, ab, col, dd, k0, k1, k2, k3, k5, hC, hbm⟩ := T.cls
  have hcl : clsIn K C = some { name := nm, bases := bs, mro := .ref C :: bm, ns := N, qualname := qq, hasDict := true, slotNames := sn, subclasses := sub, abstract := ab, collection := col, hasDel := false } := by unfold clsIn; rw [hC] <;> rfl
  have X : K.In s.heap := fun a o e => bk a o (MD.kin a o e)
  obtain ⟨mb, hb1, hb2⟩ := MD.blt
  obtain ⟨hp, g, dr, tk, os⟩ := s
  refine ks_codeAny_call_defAt (fd := ksFn "__init__" qn (iA p1 p2) (iB q) iS .none .none doc pm an (.ref cda) ct cc) (body := iB q) (binds := [("self", .ref x), ("line", v)]) hroom (X _ _ ho) rfl hlim (codeRec_of X hcd) rfl
    (BindsTo.of_eq (by first | rfl | with_unfolding_all rfl)) (show ∀ x ∈ iS.names, x.2 ≠ .cell from by decide) (fun y hy => ?_) (fun h₁ hns k₁ => ?_) rfl rfl rfl
  · rcases List.mem_cons.mp hy with rfl | hy
    · rfl
    · rcases List.mem_cons.mp hy with rfl | hy
      · rfl
      · cases hy
  have X₁ : K.In h₁ := X.keeps k₁
  have hx₁ : h₁.get? x = some (HandSPX.excO C t0) := k₁ _ _ hx
  have b₁ : ∀ b o, base.get? b = some o → h₁.get? b = some o := fun b o e => k₁ b o (bk b o e)
  have I₁ : InstAt h₁ x (HandSPX.excO C t0) C none := ⟨hx₁, rfl, rfl, trivial⟩
  have xC : x ≠ C := ks_ne X₁ I₁ hcl
  have xL : hp.objs.size ≠ x := Nat.ne_of_gt (Heap.lt_size hx)
  show _root_.PySem.wpAt (model prog w) (A.deeper (ksEnv qn iS hp.objs.size fI (.ref cda) cc)) (.func (iB q) (ksEnv qn iS hp.objs.size fI (.ref cda) cc)) (execs (iB q) (ksEnv qn iS hp.objs.size fI (.ref cda) cc)) _ _ _
  refine ks_wpAt_execs_cons (ks_wpAt_Expr_any (at_meth (by rfl) hel ?_))
  refine ks_wpAt_super_base (env := ksEnv qn iS hp.objs.size fI (.ref cda) cc) (f := fI) (cc := cda) (ar := { arg := "self", annotation := none, pos := p1 }) rfl rfl (by decide) rfl (X₁ _ _ ho) rfl rfl rfl (X₁ _ _ hcode) rfl hvs hfile htop ?_
  refine ks_loadName_global rfl rfl (loadGlobal_builtin (env := ksEnv qn iS hp.objs.size fI (.ref cda) cc) (MD.glob.keeps b₁) hs0 (hb1.keeps b₁) ((hb2 "super" (by decide)).trans (by decide +kernel)) ⟨rfl, ?_⟩)
  refine wpAny_loadName_free rfl rfl rfl ⟨_, X₁ _ _ hcell, rfl⟩ ?_
  refine wpAny_loadName_local (v := .ref x) rfl rfl hns (by first | rfl | with_unfolding_all rfl | kernel_rfl) ?_
  refine ks_wpAny_isType_cls (X₁ _ _ hC) rfl ⟨rfl, ?_⟩
  refine ks_wpAny_call_super (X₁ _ _ hC) rfl hx₁ rfl (fun c e => by cases e) (looks_mroIn X₁ T.mr) (fun h₂ e₂ k₂ => ?_)
  have X₂ : K.In h₂ := X₁.keeps k₂
  have I₂ : InstAt h₂ x (HandSPX.excO C t0) C none := ⟨k₂ _ _ hx₁, rfl, rfl, trivial⟩
  have hsup : alongIn K "__init__" (((Value.ref C :: bm).dropWhile (· != .ref C)).drop 1) = some (some (.builtin "ValueError.__init__")) := by
    have z := T.sup
    unfold ks_superIn at z
    rw [hcl] at z
    exact z
  intro pl
  refine kxs_getMethod kxs_ValueError e₂ (looks_opaque X₂ T.any) (l₀ := .ref C :: bm) (fun A Q E s k q => wpAny_bind ((looks_clsIn X₂ hcl) A _ E s k (wpAny_pure q))) rfl X₂ hsup (I₂.type.andThen (looks_subIn X₂ T.veC)) xC (by decide) ?_
  have k₃ : ∀ b o, h₂.get? b = some o → (h₂.push (kxs_mw "ValueError.__init__" x)).get? b = some o := fun b o e => Heap.get?_push_of_some _ e
  refine kxs_callWith (i := "ValueError.__init__") (x := x) (by rfl) (evalArgs_plain (spliced_cons (wpAny_Constant_str (k := q.k) (pos := q.d) (spliced_nil ⟨Heap.get?_push_at rfl rfl, ?_⟩))))
  refine mw_call T (X₂.keeps k₃) (Heap.get?_push_at rfl rfl) (k₃ _ _ (k₂ _ _ hx₁)) (one_size _) fun h₄ k₄ hx₄ => ?_
  have X₄ : K.In h₄ := fun a o e => k₄ a o (fun z => by
    have e2 := MD.kin a o e
    rw [z, hnx] at e2; cases e2) (k₃ _ _ (X₂ a o e))
  have old : ∀ b o, b ≠ x → h₁.get? b = some o → h₄.get? b = some o := fun b o hb e => k₄ b o hb (k₃ _ _ (k₂ _ _ e))
  have hns₄ : h₄.Ns hp.objs.size (fun y => [(("self" : Str), Value.ref x), (("line" : Str), v)].reverse.lookup y) := by
    obtain ⟨oL, es, ep, hL, r⟩ := hns
    exact ⟨oL, es, ep, old _ _ xL hL, r⟩
  show _root_.PySem.wpAt _ _ _ _ _ _ _
  refine wpAt_of_wpAny ?_
  refine wpAny_execs_cons (plainObj_wpAny_Assign_Attribute ?_)
  refine ldX (v := v) hns₄ (by first | rfl | with_unfolding_all rfl | kernel_rfl) (ldX (v := .ref x) hns₄ (by first | rfl | with_unfolding_all rfl | kernel_rfl) ?_)
  refine set_plain X₄ (ox := HandSPX.excO C _) (od := none) ⟨hx₄, rfl, rfl, trivial⟩ T.sa ?_
  refine HandSPX.exc_osa X₄ hx₄ hcl (show HandSPX.refsVE (.ref C :: bm) = true from hbm) rfl T.noN (fun h₅ tk₅ dx k₅ dn dne hx₅ hn₅ => ?_)
  refine wpAny_execs_nil (hq h₅ tk₅ dx ⟨fun b o hb e => k₅ b o hb (old b o hb (k₁ b o e)), ⟨_, hx₅⟩, ?_, dne, hn₅⟩)
  have z := hns₄.lt
  exact Nat.le_of_lt (Nat.lt_of_lt_of_le z dn)
theorem line_made (T : LineTxt prog.main.file K C fI) (MD : L2.Mod K mg base) (htop : (prog.main.scope.names.lookup ("super" : Str)).isSome = false) (hs0 : mg "super" = none) {v : Value} (bk : ∀ b o, base.get? b = some o → s.heap.get? b = some o) (hlim : s.heap.NoLimit) (hroom : A.depth + 1 < recursionLimit)
    (hq : ∀ h' tk e d, OwnMade s.heap h' e C d v → R (.ok (.ret (.ref e))) { s with heap := h', toks := tk }) :
    codeAny (model prog w) A (.call (.ref C) ⟨[v], []⟩) R s := by
  obtain ⟨nm, q, N, bs, bm, sn, sub, ab, col, dd, k0, k1, k2, k3, k5, hC, hbm⟩ := T.cls
  have X : K.In s.heap := fun a o e => bk a o (MD.kin a o e)
  obtain ⟨hp, g, dr, tk, os⟩ := s
  have k : ∀ b o, hp.get? b = some o → ((hp.push (kdv_tup [v])).push (HandSPX.excO C hp.objs.size)).get? b = some o := fun b o e => Heap.get?_push_of_some _ (Heap.get?_push_of_some _ e)
  have hget : ((hp.push (kdv_tup [v])).push (HandSPX.excO C hp.objs.size)).get? (hp.objs.size + 1) = some (HandSPX.excO C hp.objs.size) := by heap_get
  have hnx : base.get? (hp.objs.size + 1) = none := by
    cases e : base.get? (hp.objs.size + 1) with
    | none => rfl
    | some o => exact absurd (Nat.lt_of_succ_lt (Heap.lt_size (bk _ _ e))) (Nat.lt_irrefl _)
  refine HandSPX.call_own PySem.F.excBase_ValueError (fun X => HandSPX.refsVE_contains X bm hbm) (X _ _ hC) (looks_findIn X T.iC) (fun self => bind_fn X self T.tC) (one_size v) ?_
  refine line_init (s := ⟨(hp.push (kdv_tup [v])).push (HandSPX.excO C hp.objs.size), g, dr, tk, os⟩) T MD htop hs0 (fun b o e => k b o (bk b o e)) hget hnx (hlim.keeps k) ?_ fun h' tk' dx ⟨k', hx, dn, dne, hns⟩ => ?_
  · show A.depth + 1 < recursionLimit
    exact hroom
  · have old : ∀ b o, hp.get? b = some o → h'.get? b = some o := fun b o e => k' b o (Nat.ne_of_lt (Nat.lt_succ_of_lt (Heap.lt_size e))) (k b o e)
    have z : hp.objs.size + 1 + 1 ≤ dx := by
      first
        | (simpa only [Heap.size_push] using dn)
        | exact dn
        | (have q := dn; rw [Heap.size_push, Heap.size_push] at q; exact q)
    exact ⟨rfl, hq h' tk' (hp.objs.size + 1) dx ⟨old, Nat.le_succ _, hx, Nat.le_trans (Nat.le_trans (Nat.le_succ _) (Nat.le_succ _)) z, dne, hns⟩⟩
end
end LineX
end PySem

namespace L2
open PySem PySem.Spec PyProof.Rows
theorem relO_line {v : V} {v' : Value} (r : RelV v v') (f : Str) : RelO (List.lookup f [(("line" : Str), v)]) (if f = "line" then some v' else none) := by
  by_cases hw : f = "line"
  · subst hw
    rw [if_pos rfl]
    have q : List.lookup ("line" : Str) [(("line" : Str), v)] = some v := by simp [List.lookup]
    rw [q]
    exact r
  · rw [if_neg hw]
    have qw : (f == ("line" : Str)) = false := by simpa using hw
    have q2 : List.lookup f [(("line" : Str), v)] = none := by simp [List.lookup, qw]
    rw [q2]
    trivial
section
variable {X : Cx} {C fI : Addr}
/-- C(e) -/
def tMkLine (C : Addr) (ta : TA) : St → Hp → XK → Prop := fun σ H Q => ta σ H fun vs H1 => ∃ v, vs = [v] ∧ ∀ d, H1 d = none → Q (.ref C) (some d) (upd H1 d (.xd [(("line" : Str), v)]))
theorem pmk_line {x : Str} {a : Expr} {ta : TA} {p pos : Pos} {k : Nat} (T : PySem.LineX.LineTxt X.prog.main.file X.K C fI) (htop : (X.prog.main.scope.names.lookup ("super" : Str)).isSome = false) (hs0 : X.mg "super" = none) (gC : X.mg x = some (.ref C)) (hr : Room k X.A) (ha : PA X [a] ta) (hg : Gl X x) (hdb : (x == ("__debug__" : Str)) = false)
    (he : starEach (a :: []) X.env = (false, eval a X.env) :: starEach [] X.env) (hpl : (backTo pos (starEach [] X.env)).any (·.1) = false := by rfl) :
    PMk X (.Call (.Name x p) [a] [] pos) (tMkLine C ta) := by
  intro pins s σ H Q I h
  refine wpAny_Call_Name_kw (ld_glob I hg gC ?_ hdb)
  refine PySem.W.callWith_K (h₀ := X.base) I.ok.mod.kin T.kC (thn (ha.run pos pins s σ H _ I h) fun us s1 hh => ?_) he hpl
  obtain ⟨vs, H1, I1, r1, v, ev, q1⟩ := hh
  subst ev
  refine ⟨I1.kIn, ?_⟩
  cases r1 with
  | cons rv rn =>
    rename_i v' us'
    cases rn
    show wpAny _ _ (call (.ref C) [v']) _ _ _
    have hlim := I1.nolimit
    have hbk := I1.bk
    obtain ⟨hp, g, dr, tk, os⟩ := s1
    refine wpAny_call (PySem.LineX.line_made T I1.mod htop hs0 hbk hlim (by have := hr.dp; omega) fun h' tk' e d M => ?_)
    show MkP X pins σ Q (.ref e) ⟨h', g, dr, tk', os⟩
    obtain ⟨t1, hoe⟩ := M.obj
    have hns := M.ns
    obtain ⟨G', g1, g2⟩ := restrict h' fun b => decide (b ≠ e)
    have gk : ∀ b, b ≠ e → G'.get? b = h'.get? b := fun b hb => g1 b (decide_eq_true hb)
    have ge : G'.get? e = none := g2 e (by simp)
    have old : ∀ b o, hp.get? b = some o → G'.get? b = some o := fun b o q => (gk b (Nat.ne_of_lt (Nat.lt_of_lt_of_le (Heap.lt_size q) M.new))).trans (M.keep b o q)
    have ob : ObjOk X.prog X.w (upd H1 d (.xd [(("line" : Str), v)])) G' d (.xd [(("line" : Str), v)]) :=
      ⟨_, hns.at (fun o q => (gk d M.dne).trans q), fun f => relO_line rv f⟩
    have J : Inv X pins σ (upd H1 d (.xd [(("line" : Str), v)])) ⟨G', g, dr, tk', os⟩ := I1.laid (t' := tk') old M.dbig ob
    refine ⟨e, _, _, ⟨G', g, dr, tk', os⟩, _, .ref C, some d, rfl, J, fun b o q => ?_, ge, hoe, ⟨rfl, rfl⟩, rfl, rfl, ?_, rfl, I1.bare, raises_own T.exC T.tyC, q1 d (I1.hok.fresh M.dbig)⟩
    · by_cases hb : b = e
      · have q' : G'.get? b = some o := q
        rw [hb, ge] at q'; cases q'
      · exact (gk b hb).symm.trans q
    · rw [upd_ne (Ne.symm M.dne)]
      exact I1.hok.fresh M.new
end
end L2
end T_RfLine
section T_RfTry
set_option Elab.async false
set_option linter.all false
set_option maxRecDepth 100000
set_option maxHeartbeats 1000000
/-! Rf: raise with a line, try statements -/
namespace Rf
open PySem PySem.Spec PyProof.Rows L2
section
variable {K : PySem.W.Frag} {p : Ph} {F H : Hp} {M : Mem}
/-- a new object that nobody tracks -/
theorem step_xt {o : HO} {q : Addr} (h : H q = none) : Step p F H p F (upd H q o) where
  toLe := Le.refl p F
  keep := fun a u e _ => by rw [upd_free (by rw [e]; simp) h]; exact e
  there := fun a e => upd_none e
  new := fun _ _ e => .inl e
  fk := fun _ _ _ h => h
  fnew := fun a u e => .inl e
theorem rm_xt {o : HO} {q : Addr} (r : RM K p F M H) (h : H q = none) : RM K p F M (upd H q o) where
  fro := fun a u e => by rw [upd_free (by rw [r.fro a u e]; simp) h]; exact r.fro a u e
  dom := r.dom
  inj := r.inj
  liv := fun n a e => by rw [upd_free (r.liv n a e) h]; exact r.liv n a e
  cell := fun n a c e1 e2 hc => by
    obtain ⟨h1, h2⟩ := r.cell n a c e1 e2 hc
    exact ⟨h1, h2.keep (Le.refl p F) (upd_free (r.liv n a e1) h)⟩
end
section
variable {X : Cx} {ca : Nat → Addr} {W : WX} {e a b c tg o i : Expr} {es : List Expr} {f g h : Rf.Env → Mem → Res D} {u v : Rf.Env → Mem → SRes} {st : Stmt} {sts sts' : List Stmt} {pos : Pos}
/-! ### raise C(e) -/
def raisLS (k : Nat) (f : Rf.Env → Mem → Res D) (env : Rf.Env) (M : Mem) : SRes := (f env M).to env fun d M => some (.exc ⟨k, some d⟩, env, M)
theorem s_raisL {k n : Nat} {fI : Addr} {x : Str} {p pos2 : Pos} (hc : X.calm = true) (tk : Takes X W) (T : PySem.LineX.LineTxt X.prog.main.file X.K (ca k) fI) (htop : (X.prog.main.scope.names.lookup ("super" : Str)).isSome = false) (hs0 : X.mg "super" = none) (gC : X.mg x = some (.ref (ca k)))
    (hr : Room n X.A) (hg : Gl X x) (hdb : (x == ("__debug__" : Str)) = false) (hs : isStar e = false) (he : PE X e (tE X.K ca W f)) :
    PS X (.Raise (some (.Call (.Name x p) [e] [] pos)) none pos2) (tS X.K ca W (raisLS k f)) := by
  refine ps_imp (ps_raise hc tk (pmk_line T htop hs0 gC hr (pa_cons he pa_nil (star_cons hs)) hg hdb (star_cons hs))) fun Z σ H ⟨p, F, env, M, r, rm, re, z, hr⟩ => ?_
  refine ⟨p, F, env, M, rm, re, (At.to_ (rel := Rel X.K) re z hr).imp fun v H1 ⟨p1, F1, M1, d, s1, rm1, r1, r', e1, h1⟩ => ?_⟩
  cases e1
  refine ⟨v, rfl, fun dd hd => ?_⟩
  refine h1 p1 F1 _ σ _ _ (step_xt hd) (rm_xt rm1 hd) (re.mono s1.toLe) ⟨rfl, dd, v, rfl, upd_same, r1⟩
/-! ### try -/
def tryAS (i : Nat) (cs : List Nat) (n : Nat) (u : Rf.Env → Mem → SRes) (env : Rf.Env) (M : Mem) : SRes := match u env M with
  | some (.exc x, env, M) => if x.cls < n then (if cs.contains x.cls then (match x.line with
      | some d => if i < env.length then some (.ret d, env, M) else none
      | none => none) else some (.exc x, env, M)) else none
  | r => r
def tryMS (hs : List (Nat × List Nat × CH)) (n : Nat) (u : Rf.Env → Mem → SRes) (env : Rf.Env) (M : Mem) : SRes := match u env M with
  | some (.exc x, env, M) => if x.cls < n then runH hs x env M else none
  | r => r
/-- the classes that a class catches, of n classes -/
def ExmOk (K : PySem.W.Frag) (ca : Nat → Addr) (n k : Nat) (cs : List Nat) : Prop := ∀ c, c < n → PySem.W.exmOne K (.ref (ca c)) (.ref (ca k)) = some (cs.contains c)
/-- what return d reads in a suite -/
def tRetD (d : D) : Addr → Value → Option Addr → TS := fun _ _ _ D σ H => ∃ v, (∀ K p F, Rel K p F v d) ∧ D.rt v H
def tLine (C : Addr) (te : TE) : Addr → Value → Option Addr → TS := fun a cls d D σ H => tXf a cls d C "line" te σ H fun v H' => D.rt v H'
theorem s_tryA {j k n : Nat} {cs : List Nat} {x nm : Str} {np pos' p1 p2 p3 : Pos} (hs : X.stack = X.env :: X.outer) (hf : X.env.frame = some X.env.locals) (hN : X.N.Nodup) (hi : X.N[j]? = some nm) (hln : X.env.kindOf nm = some .local)
    (hc : Names X x (.ref (ca k))) (tk : Takes X W) (T : XfC X.K (ca k)) (hno : PySem.W.findIn X.K (.ref (ca k)) "line" = some none) (ex : ExmOk X.K ca n k cs) (hleaf : ∀ c, cs.contains c = true → c < n → ca c = ca k)
    (hd1 : (nm == ("__debug__" : Str)) = false) (hd2 : (nm == ("__classdict__" : Str)) = false)
    (hb : ∀ (W : WX) (pn : List (Addr × Obj)) (xe : Value → Shared → Prop), Takes (X.tr pn xe) W → PassesOwn (model X.prog X.w) X.A X.env xe → PSs (X.tr pn xe) sts (tS X.K ca W u)) :
    PS X (.Try sts [.ExceptHandler (some (.Name x np)) (some nm) [.Return (some (.Attribute (.Name nm p1) "line" p2)) p3] pos'] [] [] pos) (tS X.K ca W (tryAS j cs n u)) := by
  have suite : ∀ (a : Addr) (oe : Obj) (cls : Value) (d : Option Addr) (pn : List (Addr × Obj)), Zc cls d oe → (∃ vs, oe.data = .fields vs) → PSs (X.suite a ((a, oe) :: pn)) [.Return (some (.Attribute (.Name nm p1) "line" p2)) p3] (tLine (ca k) (tVar j) a cls d) := by
    intro a oe cls d pn hz hfd
    refine pss_one (ps_imp (ps_ret (pe_xf T hno hz hfd (pe_var hi (.inl hln) hd1 hd2) (by rfl))) fun D σ H h => h)
  refine ps_imp (ps_try_as hs hf hN hi hln hc tk hb suite) fun D σ H ⟨p, F, env, M, r, rm, re, z, h⟩ => ?_
  unfold tryAS at z
  cases q : u env M with
  | none => rw [q] at z; cases z
  | some r0 =>
    refine ⟨p, F, env, M, r0, rm, re, q, ?_⟩
    rw [q] at z
    obtain ⟨fl, env1, M1⟩ := r0
    cases fl with
    | nx => cases z; exact h
    | brk => cases z; exact h
    | cont => cases z; exact h
    | ret d => cases z; exact h
    | exc y =>
      have z : (if y.cls < n then (if cs.contains y.cls then (match y.line with
        | some d => if j < env1.length then some (Fl.ret d, env1, M1) else none
        | none => none) else some (.exc y, env1, M1)) else none) = some r := z
      split at z
      · rename_i hn
        intro p' F' H' σ' cls dd s rm' re' xr
        obtain ⟨rfl, xl⟩ := xr
        refine ⟨_, ex _ hn, fun hcs a na => ?_, fun hcs => ?_⟩
        · rw [if_pos hcs] at z
          cases hl : y.line with
          | none => rw [hl] at z; cases z
          | some d =>
            rw [hl] at z xl
            have z : (if j < env1.length then some (Fl.ret d, env1, M1) else none) = some r := z
            obtain ⟨a1, v, e1, e2, e3⟩ := xl
            split at z
            · rename_i hl2
              cases z
              have hj : j < σ'.length := by rw [← re'.len]; exact hl2
              refine ⟨_, by rw [List.getElem?_set_self hj], rfl, by rw [hleaf _ hcs hn], a1, _, v, e1, e2, by simp [List.lookup], ?_⟩
              exact h p' F' H' v s rm' e3
            · cases z
        · rw [if_neg (by rw [hcs]; exact Bool.false_ne_true)] at z
          cases z
          exact h p' F' H' σ' _ dd s rm' re' ⟨rfl, xl⟩
      · cases z
/-! several clauses -/
def tCH (K : PySem.W.Frag) (ca : Nat → Addr) (W : WX) : CH → TS
  | .ret d => tS K ca W fun env M => some (.ret d, env, M)
  | .set i d => tS K ca W fun env M => some (.nx, env.set i (some d), M)
def hlist (ca : Nat → Addr) (K : PySem.W.Frag) (hs : List (Nat × List Nat × CH)) : List (Value × (Addr → Value → Option Addr → TS)) := hs.map fun h => (.ref (ca h.1), fun _ _ _ => tCH K ca (fun _ _ _ _ => False) h.2.2)
theorem many_of {K : PySem.W.Frag} {n : Nat} {D : Ends} {y : Exn} {env1 : Rf.Env} {M1 : Mem} {p F H} {r : Fl × Rf.Env × Mem} (hn : y.cls < n) (hE : EndR K ca W p F H D r) : ∀ (hs : List (Nat × List Nat × CH)), (∀ h ∈ hs, ExmOk K ca n h.1 h.2.1) → runH hs y env1 M1 = some r →
    ∀ p' F' H' σ' cls dd, Step p F H p' F' H' → RM K p' F' M1 H' → RE K p' F' env1 σ' → ExcR K ca p' F' H' y cls dd → wMany K W D (hlist ca K hs) cls dd σ' H'
  | [], _, z => fun p' F' H' σ' cls dd s rm re xr => by
    cases z
    exact hE p' F' H' σ' cls dd s rm re xr
  | (k, cs, hd) :: rest, ok, z => fun p' F' H' σ' cls dd s rm re xr => by
    unfold runH at z
    have e := ok _ List.mem_cons_self _ hn
    obtain ⟨rfl, xl⟩ := id xr
    refine ⟨_, e, fun hcs a na => ?_, fun hcs => ?_⟩
    · rw [if_pos hcs] at z
      cases hd with
      | ret d =>
        cases z
        exact ⟨p', F', env1, M1, _, rm, re, rfl, fun p2 F2 H2 v s2 => hE p2 F2 H2 v (s.trans s2)⟩
      | set i d =>
        cases z
        exact ⟨p', F', env1, M1, _, rm, re, rfl, fun p2 F2 H2 v s2 => hE p2 F2 H2 v (s.trans s2)⟩
    · rw [if_neg (by rw [hcs]; exact Bool.false_ne_true)] at z
      exact many_of hn hE rest (fun h hh => ok h (List.mem_cons_of_mem _ hh)) z p' F' H' σ' _ dd s rm re xr
theorem s_tryM {n : Nat} {hs : List (Nat × List Nat × CH)} {h₀ : ExceptHandler} {hds : List ExceptHandler} (hst : X.stack = X.env :: X.outer) (hf : X.env.frame = some X.env.locals) (tk : Takes X W) (ok : ∀ h ∈ hs, ExmOk X.K ca n h.1 h.2.1)
    (hh : HdsOk X (h₀ :: hds) (hlist ca X.K hs))
    (hb : ∀ (W : WX) (pn : List (Addr × Obj)) (xe : Value → Shared → Prop), Takes (X.tr pn xe) W → PassesOwn (model X.prog X.w) X.A X.env xe → PSs (X.tr pn xe) sts (tS X.K ca W u)) :
    PS X (.Try sts (h₀ :: hds) [] [] pos) (tS X.K ca W (tryMS hs n u)) := by
  refine ps_imp (ps_try_many hst hf tk hb hh) fun D σ H ⟨p, F, env, M, r, rm, re, z, h⟩ => ?_
  unfold tryMS at z
  cases q : u env M with
  | none => rw [q] at z; cases z
  | some r0 =>
    refine ⟨p, F, env, M, r0, rm, re, q, ?_⟩
    rw [q] at z
    obtain ⟨fl, env1, M1⟩ := r0
    cases fl with
    | nx => cases z; exact h
    | brk => cases z; exact h
    | cont => cases z; exact h
    | ret d => cases z; exact h
    | exc y =>
      have z : (if y.cls < n then runH hs y env1 M1 else none) = some r := z
      split at z
      · rename_i hn
        intro p' F' H' σ' cls dd s rm' re' xr
        exact many_of hn h hs ok z p' F' H' σ' cls dd s rm' re' xr
      · cases z
end
end Rf
end T_RfTry
section T_RfExn
set_option Elab.async false
set_option linter.all false
set_option maxRecDepth 100000
set_option maxHeartbeats 1000000
/-! Rf: errors held as values -/
namespace L2
open PySem PySem.Spec PyProof.Rows
/-- what a class says whose instances are held -/
structure XvC (K : PySem.W.Frag) (C : Addr) : Prop where
  cl : (PySem.W.clsIn K C).isSome = true
  hg : PySem.W.findIn K (.ref C) "__getattribute__" = some (some (.builtin "BaseException.__getattribute__"))
  hk : PySem.W.findIn K (.ref C) "__getattr__" = some none
  hs : PySem.W.subIn K (.ref C) (.type "BaseException") = some true
  ha : PySem.W.findIn K (.ref C) "__class__" = some (some (.builtin "object.__class__"))
  hn : PySem.W.specialIn K (.builtin "object.__class__") "__get__" = some (some (.builtin "getset_descriptor.__get__"))
  ht : PySem.W.takesIn K (.builtin "object.__class__") = some true
  hm : PySem.W.mroIn K C (.type "object") = some true
section
variable {X : Cx} {C fI : Addr}
/-- an error object, with its own dict or without -/
def IsXo (H : Hp) (C a : Addr) : Prop := H a = some (ExO (.ref C) a) ∨ ∃ d fs, H a = some (exo a C (some d)) ∧ H d = some (.xd fs)
theorem exd_at' {pins : List (Addr × Obj)} {σ : L2.St} {H : Hp} {s : Shared} {d : Addr} {fs : List (Str × V)} (I : Inv X pins σ H s) (h : H d = some (.xd fs)) : ∃ mA, s.heap.Ns1 d mA ∧ ∀ f, RelO (fs.lookup f) (mA f) := I.hok d _ h
theorem inst_xo {pins : List (Addr × Obj)} {σ : L2.St} {H : Hp} {s : Shared} {a : Addr} (I : Inv X pins σ H s) (h : IsXo H C a) : ∃ oe od, PySem.W.InstAt s.heap a oe C od := by
  rcases h with h | ⟨d, fs, h1, h2⟩
  · obtain ⟨⟨oe, vs, ho, hz, hd, _⟩, _, _⟩ := I.hok a _ h
    refine ⟨oe, none, ?_⟩
    obtain ⟨oc, od, oda, osl⟩ := oe
    obtain ⟨z1, z2⟩ := hz
    dsimp only at z1 z2 hd
    subst z1 z2 hd
    exact ⟨ho, rfl, rfl, trivial⟩
  · obtain ⟨t1, ho⟩ := exo_at I.hok h1
    obtain ⟨mA, hns, _⟩ := exd_at' I h2
    obtain ⟨od, hod, _⟩ := lookIn_ns hns
    exact ⟨_, some od, ho, rfl, rfl, hod⟩
/-- isinstance(e, c), e such an object -/
def rIsV (K : PySem.W.Frag) (D a : Addr) (H0 : Hp) : List V → Hp → VK → Prop := fun xs H Q => ∃ (c : V) (cv : Value) (b : Bool), xs = [.ref a, c] ∧ IsXo H D a ∧ (∀ u, RelV c u → u = cv) ∧ PySem.W.kitOne K (.ref D) cv = some b ∧ Q (.bl b) H
def rIsVa (K : PySem.W.Frag) : List V → Hp → VK → Prop := fun xs H Q => ∃ (a D : Addr) (c : V) (cv : Value) (b : Bool), xs = [.ref a, c] ∧ XvC K D ∧ IsXo H D a ∧ (∀ u, RelV c u → u = cv) ∧ PySem.W.kitOne K (.ref D) cv = some b ∧ Q (.bl b) H
theorem call_isV : CallR X (.builtin "isinstance") (rIsVa X.K) := by
  intro pins s σ H xs us Q I r h
  obtain ⟨a, D, c, cv, b, rfl, T, hx, hcv, e, q⟩ := h
  cases r with
  | cons rx rr =>
    cases rr with
    | cons rt rr =>
      cases rr
      cases rx
      have ec := hcv _ rt
      subst ec
      obtain ⟨oe, od, J⟩ := inst_xo I hx
      exact PySem.W.kia_one (PySem.W.kitx_exc T.cl T.hg T.hk T.hs T.ha T.hn T.ht T.hm) I.kIn J e (fun z => nomatch z) fun tk => ⟨.bl b, H, I.kept (t' := tk) fun _ _ z => z, rfl, q⟩
/-- e.line -/
def tXfV (K : PySem.W.Frag) (f : Str) (te : TE) : TE := fun σ H Q => te σ H fun x H1 => ∃ (a C d : Addr) (fs : List (Str × V)) (v : V), x = .ref a ∧ XfC K C ∧ PySem.W.findIn K (.ref C) f = some none ∧ H1 a = some (exo a C (some d)) ∧ H1 d = some (.xd fs) ∧ fs.lookup f = some v ∧ Q v H1
theorem pe_xfV {e : Expr} {te : TE} {pos : Pos} {n : Str} (he : PE X e te) (hb : attributeBase e n X.env (eval e X.env) = eval e X.env) : PE X (.Attribute e n pos) (tXfV X.K n te) := by
  refine ⟨fun pins s σ H Q I h => ?_⟩
  refine attr_of hb (thn (he.run pins s σ H _ I h) fun u s1 hh => ?_)
  obtain ⟨x, H1, I1, rx, a, C, d, fs, v, ex, T, hno, ea, ed, l, q⟩ := hh
  subst ex
  obtain rfl : u = Value.ref a := rx
  obtain ⟨t1, ha⟩ := exo_at I1.hok ea
  obtain ⟨mA, hns, hr⟩ := exd_at' I1 ed
  obtain ⟨od, ho, hl⟩ := lookIn_ns hns
  obtain ⟨u, hu, ru⟩ := RelO.some_of (v := v) (o := mA n) (by rw [← l]; exact hr n)
  have J : PySem.W.InstAt s1.heap a _ C (some od) := ⟨ha, rfl, rfl, ho⟩
  exact HandSPX.exc_get I1.kIn J T.ga T.gg T.exC (PySem.W.findObj_own T.hdC hno rfl (by rw [hl, hu])) (handed_of ru) ⟨v, H1, I1.tok _, ru, q⟩
/-- C(e) as a value, C with a line -/
theorem pe_lineV {x : Str} {a : Expr} {ta : TA} {p pos : Pos} {k : Nat} (T : PySem.LineX.LineTxt X.prog.main.file X.K C fI) (htop : (X.prog.main.scope.names.lookup ("super" : Str)).isSome = false) (hs0 : X.mg "super" = none) (gC : X.mg x = some (.ref C)) (hr : Room k X.A) (ha : PA X [a] ta) (hg : Gl X x) (hdb : (x == ("__debug__" : Str)) = false)
    (he : starEach (a :: []) X.env = (false, eval a X.env) :: starEach [] X.env) (hpl : (backTo pos (starEach [] X.env)).any (·.1) = false := by rfl) :
    PE X (.Call (.Name x p) [a] [] pos) (fun σ H Q => ta σ H fun vs H1 => ∃ v, vs = [v] ∧ ∀ e d, H1 e = none → H1 d = none → d ≠ e → Q (.ref e) (upd (upd H1 d (.xd [(("line" : Str), v)])) e (exo e C (some d)))) := by
  refine ⟨fun pins s σ H Q I h => ?_⟩
  refine wpAny_Call_Name_kw (ld_glob I hg gC ?_ hdb)
  refine PySem.W.callWith_K (h₀ := X.base) I.ok.mod.kin T.kC (thn (ha.run pos pins s σ H _ I h) fun us s1 hh => ?_) he hpl
  obtain ⟨vs, H1, I1, r1, v, ev, q1⟩ := hh
  subst ev
  refine ⟨I1.kIn, ?_⟩
  cases r1 with
  | cons rv rn =>
    rename_i v' us'
    cases rn
    show wpAny _ _ (call (.ref C) [v']) _ _ _
    have hlim := I1.nolimit
    have hbk := I1.bk
    obtain ⟨hp, g, dr, tk, os⟩ := s1
    refine wpAny_call (PySem.LineX.line_made T I1.mod htop hs0 hbk hlim (by have := hr.dp; omega) fun h' tk' e d M => ?_)
    obtain ⟨t1, hoe⟩ := M.obj
    have hns := M.ns
    obtain ⟨G', g1, g2⟩ := restrict h' fun b => decide (b ≠ e)
    have gk : ∀ b, b ≠ e → G'.get? b = h'.get? b := fun b hb => g1 b (decide_eq_true hb)
    have ge : G'.get? e = none := g2 e (by simp)
    have old : ∀ b o, hp.get? b = some o → G'.get? b = some o := fun b o q => (gk b (Nat.ne_of_lt (Nat.lt_of_lt_of_le (Heap.lt_size q) M.new))).trans (M.keep b o q)
    have ob : ObjOk X.prog X.w (upd H1 d (.xd [(("line" : Str), v)])) G' d (.xd [(("line" : Str), v)]) :=
      ⟨_, hns.at (fun o q => (gk d M.dne).trans q), fun f => relO_line rv f⟩
    have J : Inv X pins σ (upd H1 d (.xd [(("line" : Str), v)])) ⟨G', g, dr, tk', os⟩ := I1.laid (t' := tk') old M.dbig ob
    have hn : (upd H1 d (.xd [(("line" : Str), v)])) e = none := by
      rw [upd_ne (Ne.symm M.dne)]
      exact I1.hok.fresh M.new
    have J2 : Inv X pins σ (upd (upd H1 d (.xd [(("line" : Str), v)])) e (exo e C (some d))) ⟨h', g, dr, tk', os⟩ :=
      J.laidN (h' := h') (t' := tk') (fun b u q => by
        by_cases hb : b = e
        · have q' : G'.get? b = some u := q
          rw [hb, ge] at q'; cases q'
        · exact (gk b hb).symm.trans q) ge hn (exo_ok hoe)
    exact ⟨.ref e, _, J2, rfl, q1 e d (I1.hok.fresh M.new) (I1.hok.fresh M.dbig) M.dne⟩
end
end L2
namespace Rf
open PySem PySem.Spec PyProof.Rows L2
section
variable {X : Cx} {ca : Nat → Addr} {W : WX} {e a b c tg o i : Expr} {f g h : Rf.Env → Mem → Res D} {pos : Pos}
theorem rel_xo {K : PySem.W.Frag} {p : Ph} {F H : Hp} {M : Mem} {v : V} {y : Str} {l : Option Int} (rm : RM K p F M H) (r : Rel K p F v (.exn y l)) : ∃ z, v = .ref z ∧ IsXo H (He.ga K y) z := by
  cases r with
  | exn h => exact ⟨_, rfl, .inl (rm.fro _ _ h)⟩
  | exl h h2 => exact ⟨_, rfl, .inr ⟨_, _, rm.fro _ _ h, rm.fro _ _ h2⟩⟩
theorem e_mkE {bmB : List Value} {B newId initId : String} {x : Str} {p : Pos} (Fe : ExcBaseFacts B newId initId bmB) (q : PySem.W.excIn X.K (He.ga X.K x) bmB newId = true) (gC : X.mg x = some (.ref (He.ga X.K x)))
    (kC : PySem.W.keepIn X.K (.ref (He.ga X.K x)) = true) (hg : Gl X x) (hdb : (x == ("__debug__" : Str)) = false) (hs : isStar a = false) (ha : PE X a (tE X.K ca W f)) :
    PE X (.Call (.Name x p) [a] [] pos) (tE X.K ca W fun env M => (f env M).bind fun _ M => ok (.exn x none) M) := by
  refine pe_imp (pe_exc1 Fe q gC kC hg ha (star_cons hs) hdb) fun σ H Q ⟨p, F, env, M, rm, re, q⟩ => ?_
  refine ⟨p, F, env, M, rm, re, q.bind.imp fun v H1 ⟨p1, F1, M1, d, s1, rm1, r1, q1⟩ => fun z hz => ?_⟩
  obtain ⟨r', e, h⟩ := q1
  cases e
  exact h p1 _ _ _ (step_new rm1 hz) (rm_new rm1 hz) (.exn upd_same)
theorem e_mkL {n : Nat} {fI : Addr} {x : Str} {p : Pos} (T : PySem.LineX.LineTxt X.prog.main.file X.K (He.ga X.K x) fI) (htop : (X.prog.main.scope.names.lookup ("super" : Str)).isSome = false) (hs0 : X.mg "super" = none) (gC : X.mg x = some (.ref (He.ga X.K x)))
    (hr : Room n X.A) (hg : Gl X x) (hdb : (x == ("__debug__" : Str)) = false) (hs : isStar a = false) (ha : PE X a (tE X.K ca W f)) :
    PE X (.Call (.Name x p) [a] [] pos) (tE X.K ca W fun env M => (f env M).bind fun d M => mkLine x d M) := by
  refine pe_imp (pe_lineV T htop hs0 gC hr (pa_cons ha pa_nil (star_cons hs)) hg hdb (star_cons hs)) fun σ H Q ⟨p, F, env, M, rm, re, q⟩ => ?_
  refine ⟨p, F, env, M, rm, re, q.bind.imp fun v H1 ⟨p1, F1, M1, d, s1, rm1, r1, q1⟩ => ?_⟩
  refine ⟨v, rfl, fun e d' he hd hne => ?_⟩
  obtain ⟨r', e1, h⟩ := q1
  cases r1 with
  | int i =>
    cases e1
    have h2 : upd H1 d' (.xd [(("line" : Str), V.int i)]) e = none := by rw [upd_ne (Ne.symm hne)]; exact he
    have rm2 := rm_new (o := .xd [(("line" : Str), V.int i)]) rm1 hd
    exact h p1 _ _ _ ((step_new rm1 hd).trans (step_new rm2 h2)) (rm_new rm2 h2) (.exl upd_same (by rw [upd_ne hne]; exact upd_same))
  | _ => cases e1
theorem e_isE {x : Str} {t : List (Str × Bool)} {p q : Pos} (hg : Gl X "isinstance") (hm : X.mg "isinstance" = none) (hg2 : Gl X x) (hdb : (x == ("__debug__" : Str)) = false) (gC : X.mg x = some (.ref (He.ga X.K x)))
    (ht : ∀ y b, t.lookup y = some b → XvC X.K (He.ga X.K y) ∧ PySem.W.kitOne X.K (.ref (He.ga X.K y)) (.ref (He.ga X.K x)) = some b) (ha : PE X a (tE X.K ca W f)) (hs : isStar a = false) :
    PE X (.Call (.Name "isinstance" p) [a, .Name x q] [] pos) (tE X.K ca W fun env M => (f env M).bind fun d M => lift ((isExn t d).map .bl) M) := by
  have h2 : PE X (.Name x q) (tC (.ref (He.ga X.K x))) := pe_glob hg2 gC rfl hdb
  refine pe_imp (pe_callB call_isV hg hm (by decide +kernel) (pa_cons ha (pa_cons h2 pa_nil rfl) (star_cons hs)) (by decide) (by decide) (star_cons hs) rfl) fun σ H Q ⟨p, F, env, M, rm, re, q⟩ => ?_
  refine ⟨p, F, env, M, rm, re, q.bind.imp fun v H1 ⟨p1, F1, M1, d, s1, rm1, r1, q1⟩ => ?_⟩
  obtain ⟨r, e1, q4⟩ := q1.lift_
  obtain ⟨k, e2, rfl⟩ := map_some e1
  cases d <;> first | (cases e2; done) | skip
  rename_i y l
  obtain ⟨z, rfl, hx⟩ := rel_xo rm1 r1
  obtain ⟨T, hk⟩ := ht y k e2
  exact ⟨z, _, .ref (He.ga X.K x), .ref (He.ga X.K x), k, rfl, T, hx, fun u r => r, hk, q4 _ _ _ _ (Step.refl ..) rm1 (.bl k)⟩
theorem e_isB {ys : List Str} {p q : Pos} (hg : Gl X "isinstance") (hm : X.mg "isinstance" = none) (hg2 : Gl X "ValueError") (hm2 : X.mg "ValueError" = none)
    (ht : ∀ y ∈ ys, XvC X.K (He.ga X.K y) ∧ PySem.W.kitOne X.K (.ref (He.ga X.K y)) (.type "ValueError") = some true) (ha : PE X a (tE X.K ca W f)) (hs : isStar a = false) :
    PE X (.Call (.Name "isinstance" p) [a, .Name "ValueError" q] [] pos) (tE X.K ca W fun env M => (f env M).bind fun d M => lift (isBas ys d) M) := by
  have h2 : PE X (.Name "ValueError" q) (tC (.ty "ValueError")) := pe_bltn hg2 hm2 boot_ValueError rfl (by decide) (by decide)
  refine pe_imp (pe_callB call_isV hg hm (by decide +kernel) (pa_cons ha (pa_cons h2 pa_nil rfl) (star_cons hs)) (by decide) (by decide) (star_cons hs) rfl) fun σ H Q ⟨p, F, env, M, rm, re, q⟩ => ?_
  refine ⟨p, F, env, M, rm, re, q.bind.imp fun v H1 ⟨p1, F1, M1, d, s1, rm1, r1, q1⟩ => ?_⟩
  obtain ⟨r, e1, q4⟩ := q1.lift_
  cases d <;> first | (cases e1; done) | skip
  rename_i y l
  have e1 : (if y ∈ ys then some (D.bl true) else none) = some r := e1
  split at e1
  · rename_i hy
    cases e1
    obtain ⟨z, rfl, hx⟩ := rel_xo rm1 r1
    obtain ⟨T, hk⟩ := ht y hy
    exact ⟨z, _, .ty "ValueError", .type "ValueError", true, rfl, T, hx, fun u r => r, hk, q4 _ _ _ _ (Step.refl ..) rm1 (.bl true)⟩
  · cases e1
theorem e_line {ys : List Str} (ht : ∀ y ∈ ys, XfC X.K (He.ga X.K y) ∧ PySem.W.findIn X.K (.ref (He.ga X.K y)) "line" = some none) (hb : attributeBase a "line" X.env (eval a X.env) = eval a X.env) (ha : PE X a (tE X.K ca W f)) :
    PE X (.Attribute a "line" pos) (tE X.K ca W fun env M => (f env M).bind fun d M => lift (lineOf ys d) M) := by
  refine pe_imp (pe_xfV ha hb) fun σ H Q ⟨p, F, env, M, rm, re, q⟩ => ?_
  refine ⟨p, F, env, M, rm, re, q.bind.imp fun v H1 ⟨p1, F1, M1, d, s1, rm1, r1, q1⟩ => ?_⟩
  obtain ⟨r, e1, q4⟩ := q1.lift_
  cases d <;> first | (cases e1; done) | skip
  rename_i y l
  cases l with
  | none => cases e1
  | some i =>
    have e1 : (if y ∈ ys then some (D.int i) else none) = some r := e1
    split at e1
    · rename_i hy
      cases e1
      obtain ⟨T, hno⟩ := ht y hy
      cases r1 with
      | exl h1 h2 => exact ⟨_, _, _, _, .int i, rfl, T, hno, rm1.fro _ _ h1, rm1.fro _ _ h2, by simp [List.lookup], q4 _ _ _ _ (Step.refl ..) rm1 (.int i)⟩
    · cases e1
end
end Rf
end T_RfExn
section T_RfSw
set_option Elab.async false
set_option linter.all false
set_option maxRecDepth 100000
set_option maxHeartbeats 1000000
/-! Rf: stores of several names in one assignment -/
namespace Rf
open PySem PySem.Spec PyProof.Rows L2
def isTupX : Expr → Bool
  | .Tuple _ _ _ => true
  | _ => false
theorem sw_noTup {t e : Expr} {env : PySem.Env} (h : isTupX e = false) : swappedStores [t] e env = pure none := by
  cases e <;> first | (cases h; done) | skip
  all_goals (cases t <;> rfl)
theorem sw_nm {x : Str} {p : Pos} {e : Expr} {env : PySem.Env} : swappedStores [.Name x p] e env = pure none := by
  cases e <;> rfl
theorem bk_fn {env : PySem.Env} (h : env.scope.kind = .function) : env.blockKind = .function := by
  unfold Env.blockKind
  rw [h]; rfl
/-- a target that is no local name -/
def noLoc (sc : Scope) : Expr → Bool
  | .Name x _ => !decide (sc.names.lookup x = some .local)
  | _ => true
theorem fm_len {f : Expr → Option Str} : ∀ {es : List Expr}, (∃ e ∈ es, f e = none) → ((es.filterMap f).length != es.length) = true := by
  intro es h
  have key : ∀ es : List Expr, (es.filterMap f).length ≤ es.length := fun es => List.length_filterMap_le f es
  have : (es.filterMap f).length < es.length := by
    induction es with
    | nil => obtain ⟨_, h, _⟩ := h; cases h
    | cons x r ih =>
      obtain ⟨e, he, hf⟩ := h
      rcases List.mem_cons.mp he with he | he
      · subst he
        rw [List.filterMap_cons_none hf]
        exact Nat.lt_succ_of_le (key r)
      · have := ih ⟨e, he, hf⟩
        cases q : f x with
        | none => rw [List.filterMap_cons_none q]; exact Nat.lt_succ_of_lt this
        | some y => rw [List.filterMap_cons_some q]; exact Nat.succ_lt_succ this
  exact bne_iff_ne.mpr (Nat.ne_of_lt this)
theorem sw_some {ts vs : List Expr} {k k2 : Nat} {p p2 : Pos} {env : PySem.Env} (h : (ts.any fun e => noLoc env.scope e) = true) : swappedStores [.Tuple ts k p] (.Tuple vs k2 p2) env = pure none := by
  obtain ⟨e, he, hn⟩ := List.any_eq_true.mp h
  unfold swappedStores
  show (if _ then pure none else if _ then pure none else if _ then pure none else _) = _
  split
  · rfl
  · split
    · rfl
    · refine if_pos ?_
      rw [Bool.or_eq_true]
      left
      refine fm_len ⟨e, he, ?_⟩
      cases e <;> first | rfl | skip
      rename_i x q
      have hn : (!decide (env.scope.names.lookup x = some .local)) = true := hn
      have hk : ¬ env.kindOf x = some .local := fun z => by
        have z' : env.scope.names.lookup x = some .local := z
        rw [z'] at hn
        simp at hn
      show (if (env.kindOf x == some .local && q.line == _) = true then some x else none) = none
      rw [if_neg]
      simp [hk]
theorem sw_len {ts vs : List Expr} {k k2 : Nat} {p p2 : Pos} {env : PySem.Env} (h : (!(ts.length == 2 || ts.length == 3) || vs.length != ts.length) = true) : swappedStores [.Tuple ts k p] (.Tuple vs k2 p2) env = pure none := by
  unfold swappedStores
  show (if _ then pure none else _) = _
  rw [if_pos]
  rw [Bool.or_eq_true]
  exact .inl h
theorem sw_fold {ts vs : List Expr} {k k2 : Nat} {p p2 : Pos} {env : PySem.Env} (h : vs.all (foldedForSure 8) = true) : swappedStores [.Tuple ts k p] (.Tuple vs k2 p2) env = pure none := by
  unfold swappedStores
  show (if _ then pure none else if _ then pure none else if _ then pure none else if _ then pure none else _) = _
  split
  · rfl
  · split
    · rfl
    · split
      · rfl
      · first
        | rfl
        | rw [if_pos h]
theorem sw_pair {x y : Str} {px py : Pos} {a b : Expr} {k k2 : Nat} {p p2 : Pos} {env : PySem.Env} (hk : env.scope.kind = .function) (hx : env.scope.names.lookup x = some .local) (hy : env.scope.names.lookup y = some .local) (hl : (py.line == px.line) = true) (hxy : x ≠ y)
    (sa : isStar a = false) (sb : isStar b = false) (hf : (foldedForSure 8 a && foldedForSure 8 b) = false) (hc : (constantsAlone 8 a && constantsAlone 8 b) = false) :
    swappedStores [.Tuple [.Name x px, .Name y py] k p] (.Tuple [a, b] k2 p2) env = pure (some [x, y]) := by
  have kx : env.kindOf x = some .local := hx
  have ky : env.kindOf y = some .local := hy
  have st : ∀ e : Expr, isStar e = false → (match e with | .Starred .. => true | _ => false) = false := fun e h => by cases e <;> first | rfl | (cases h)
  have hl' : py.line = px.line := beq_iff_eq.mp hl
  have hf' : ([a, b].all (foldedForSure 8)) = false := by simpa using hf
  have hc' : ([a, b].all (constantsAlone 8)) = false := by simpa using hc
  have hnd : ([x, y].eraseDups.length != [x, y].length) = false := by
    have : ([x, y] : List Str).eraseDups = [x, y] := by
      simp [List.eraseDups_cons, hxy, Ne.symm hxy]
    rw [this]; rfl
  unfold swappedStores
  simp only [bk_fn hk]
  show (if _ then pure none else if _ then pure none else if _ then pure none else if _ then pure none else if _ then _ else _) = _
  rw [if_neg (by simp), if_neg, if_neg, if_neg (by rw [hf']; decide), if_neg (by rw [hc']; decide)]
  · show pure (some (List.filterMap _ [Expr.Name x px, Expr.Name y py])) = _
    simp [kx, ky, hl', Expr.pos]
  · show ¬ ((List.filterMap _ [Expr.Name x px, Expr.Name y py]).length != _ || _) = true
    simp [kx, ky, hl', Expr.pos]
    simpa using hnd
  · intro h
    obtain ⟨e, he, hq⟩ := List.any_eq_true.mp h
    clear h
    rcases List.mem_cons.mp he with rfl | he
    · cases e <;> first | (cases sa; done) | (cases hq)
    · rcases List.mem_cons.mp he with rfl | he
      · cases e <;> first | (cases sb; done) | (cases hq)
      · cases he
theorem sw_trip {x y z : Str} {px py pz : Pos} {a b c : Expr} {k k2 : Nat} {p p2 : Pos} {env : PySem.Env} (hk : env.scope.kind = .function) (hx : env.scope.names.lookup x = some .local) (hy : env.scope.names.lookup y = some .local) (hz : env.scope.names.lookup z = some .local) (hl : (py.line == px.line) = true) (hl2 : (pz.line == px.line) = true) (hxy : x ≠ y) (hxz : x ≠ z) (hyz : y ≠ z)
    (sa : isStar a = false) (sb : isStar b = false) (sc : isStar c = false) (hf : (foldedForSure 8 a && (foldedForSure 8 b && foldedForSure 8 c)) = false) (hc : (constantsAlone 8 a && (constantsAlone 8 b && constantsAlone 8 c)) = false) :
    swappedStores [.Tuple [.Name x px, .Name y py, .Name z pz] k p] (.Tuple [a, b, c] k2 p2) env = pure (some [x, y, z]) := by
  have kx : env.kindOf x = some .local := hx
  have ky : env.kindOf y = some .local := hy
  have kz : env.kindOf z = some .local := hz
  have hl' : py.line = px.line := beq_iff_eq.mp hl
  have hl2' : pz.line = px.line := beq_iff_eq.mp hl2
  have hf' : ([a, b, c].all (foldedForSure 8)) = false := by simpa using hf
  have hc' : ([a, b, c].all (constantsAlone 8)) = false := by simpa using hc
  have hnd : ([x, y, z].eraseDups.length != [x, y, z].length) = false := by
    have : ([x, y, z] : List Str).eraseDups = [x, y, z] := by
      simp [List.eraseDups_cons, hxy, Ne.symm hxy, Ne.symm hxz, Ne.symm hyz]
    rw [this]; rfl
  unfold swappedStores
  simp only [bk_fn hk]
  show (if _ then pure none else if _ then pure none else if _ then pure none else if _ then pure none else if _ then _ else _) = _
  rw [if_neg (by simp), if_neg, if_neg, if_neg (by rw [hf']; decide), if_neg (by rw [hc']; decide)]
  · show pure (some (List.filterMap _ [Expr.Name x px, Expr.Name y py, Expr.Name z pz])) = _
    simp [kx, ky, kz, hl', hl2', Expr.pos]
  · show ¬ ((List.filterMap _ [Expr.Name x px, Expr.Name y py, Expr.Name z pz]).length != _ || _) = true
    simp [kx, ky, kz, hl', hl2', Expr.pos]
    simpa using hnd
  · intro h
    obtain ⟨e, he, hq⟩ := List.any_eq_true.mp h
    clear h
    rcases List.mem_cons.mp he with rfl | he
    · cases e <;> first | (cases sa; done) | (cases hq)
    · rcases List.mem_cons.mp he with rfl | he
      · cases e <;> first | (cases sb; done) | (cases hq)
      · rcases List.mem_cons.mp he with rfl | he
        · cases e <;> first | (cases sc; done) | (cases hq)
        · cases he
section
variable {X : Cx} {ca : Nat → Addr} {W : WX} {a b c : Expr} {pos : Pos}
theorem s_par3 {j k l : Nat} {x y z : Str} {px py pz pt pt2 : Pos} {kt k2 : Nat} (hc : X.calm = true) (hN : X.N.Nodup) (hj : X.N[j]? = some x) (hk : X.N[k]? = some y) (hl : X.N[l]? = some z) (hjk : j ≠ k) (hjl : j ≠ l) (hkl : k ≠ l) (hx : X.env.scope.names.lookup x = some .local) (hy : X.env.scope.names.lookup y = some .local) (hz : X.env.scope.names.lookup z = some .local)
    (hw : swappedStores [.Tuple [.Name x px, .Name y py, .Name z pz] kt pt] (.Tuple [a, b, c] k2 pt2) X.env = pure (some [x, y, z])) {fs : Rf.Env → Mem → Res (List D)} (ha : PA X [a, b, c] (tEs X.K ca W fs)) :
    PS X (.Assign [.Tuple [.Name x px, .Name y py, .Name z pz] kt pt] (.Tuple [a, b, c] k2 pt2) pos) (tS X.K ca W (asgS (.tp (.cons (.nm j) (.cons (.nm k) (.cons (.nm l) .nil)))) fun env M => (fs env M).bind fun xs M => if xs.length ≤ sizeLine then ok (.tup xs) M else none)) := by
  refine ps_imp (ps_par3 hc hN hj hk hl hjk hjl hkl hx hy hz ha hw rfl) fun Z σ H ⟨p, F, env, M, r, rm, re, z, h⟩ => ?_
  have z1 : (fs env M).to env (fun xs M => if xs.length ≤ sizeLine then (match asT (.tp (.cons (.nm j) (.cons (.nm k) (.cons (.nm l) .nil)))) (.tup xs) env with
    | some env => some (Fl.nx, env, M)
    | none => none) else none) = some r := by
    have z : ((fs env M).bind fun xs M => if xs.length ≤ sizeLine then ok (D.tup xs) M else none).to env (fun x M => match asT (.tp (.cons (.nm j) (.cons (.nm k) (.cons (.nm l) .nil)))) x env with
      | some env => some (Fl.nx, env, M)
      | none => none) = some r := z
    cases q : fs env M with
    | none => rw [q] at z; cases z
    | some q' =>
      rw [q] at z
      cases q' with
      | er x M' => exact z
      | ok xs M' =>
        have z : (if xs.length ≤ sizeLine then ok (D.tup xs) M' else none).to env _ = some r := z
        show (if xs.length ≤ sizeLine then _ else none) = some r
        split at z
        · rename_i hl; rw [if_pos hl]; exact z
        · cases z
  refine ⟨p, F, env, M, rm, re, (At.to_ (rel := Rels X.K) re z1 h).imp fun vs H1 ⟨p1, F1, M1, ds, s1, rm1, r1, r', e1, h1⟩ => ?_⟩
  split at e1
  · have e1 : (match asTs (.cons (.nm j) (.cons (.nm k) (.cons (.nm l) .nil))) ds env with
      | some env => some (Fl.nx, env, M1)
      | none => none) = some r' := e1
    match ds, r1, e1 with
    | [d1, d2, d3], .cons q1 (.cons q2 (.cons q3 .nil)), e1 =>
      have e1 : some (Fl.nx, ((env.set j (some d1)).set k (some d2)).set l (some d3), M1) = some r' := e1
      cases e1
      exact ⟨_, _, _, rfl, h1 _ _ _ _ (Step.refl ..) rm1 ((((re.mono s1.toLe).set q1).set q2).set q3)⟩
    | [], _, e1 => cases e1
    | [d1], .cons q1 .nil, e1 => cases e1
    | [d1, d2], .cons q1 (.cons q2 .nil), e1 => cases e1
    | d1 :: d2 :: d3 :: d4 :: ds, .cons q1 (.cons q2 (.cons q3 (.cons q4 q5))), e1 => cases e1
  · cases e1
end
end Rf
end T_RfSw
section T_RfRev
set_option Elab.async false
set_option linter.all false
set_option maxRecDepth 100000
set_option maxHeartbeats 1000000
/-! Rf: t[::-1] of a tuple -/
namespace Rf
open PySem PySem.Spec PyProof.Rows L2
section
variable {prog : Program} {w : World} {A : Around} {E : Value → Shared → Prop} {s : Shared}
theorem adj_rev (n : Nat) : Builtin.Slice.sliceAdjust none none (-1) (n : Int) = ((n : Int) - 1, -1) := by
  unfold Builtin.Slice.sliceAdjust
  simp
theorem places_rev (n : Nat) : Builtin.Slice.slicePlaces ((n : Int) - 1) (-1) (-1) = n := by
  unfold Builtin.Slice.slicePlaces
  simp
  all_goals omega
theorem sliceApplied_rev {sl : Addr} {vl vu vs : Value} {n : Nat} {Q : Int × Int × Nat → Shared → Prop} (hs : s.heap.IsSliceOf sl vl vu vs) (pl : IsPart vl none) (pu : IsPart vu none) (ps : IsPart vs (some (-1)))
    (h : Q (((n : Int) - 1), -1, n) s) : wpAny (model prog w) A (Builtin.Slice.sliceApplied (.ref sl) (pure (n : Int))) Q E s := by
  obtain ⟨os, hos, hcs, hds⟩ := id hs
  unfold Builtin.Slice.sliceApplied Builtin.Slice.sliceFields
  refine wpAny_bind (wpAny_bind (wpAny_field hos hds (x := vl) rfl (wpAny_bind (wpAny_field hos hds (x := vu) rfl (wpAny_bind (wpAny_field hos hds (x := vs) rfl (wpAny_pure ?_)))))))
  refine wpAny_bind (HT.slicePart_ ps ?_)
  show wpAny _ _ (if ((-1 : Int) == 0) = true then _ else _) _ _ s
  rw [if_neg (by decide)]
  refine wpAny_bind (HT.slicePart_ pl (wpAny_bind (HT.slicePart_ pu (wpAny_bind (wpAny_pure ?_)))))
  show wpAny _ _ (match Builtin.Slice.sliceAdjust none none (-1) (n : Int) with | (lo, hi) => pure (lo, (-1 : Int), Builtin.Slice.slicePlaces lo hi (-1))) _ _ s
  rw [adj_rev n]
  show wpAny _ _ (pure (((n : Int) - 1), (-1 : Int), Builtin.Slice.slicePlaces ((n : Int) - 1) (-1) (-1))) _ _ s
  rw [places_rev]
  exact wpAny_pure h
theorem fm_congr {α β : Type} {f g : α → Option β} : ∀ {l : List α}, (∀ m ∈ l, f m = g m) → l.filterMap f = l.filterMap g
  | [], _ => rfl
  | x :: l, h => by
    rw [List.filterMap_cons, List.filterMap_cons, h x List.mem_cons_self, fm_congr fun m hm => h m (List.mem_cons_of_mem _ hm)]
theorem pick_rev (xs : Array Value) : ((List.range xs.size).filterMap fun (m : Nat) => xs[(((xs.size : Int) - 1) + (m : Int) * (-1)).toNat]?).toArray = xs.toList.reverse.toArray := by
  have e1 := PySem.W.krv_pick xs
  unfold slicePick at e1
  rw [PySem.W.krv_bounds] at e1
  have e1 : ((sliceRange ((xs.size : Int) - 1) (-1) (-1)).filterMap (xs[·]?)).toArray = xs.toList.reverse.toArray := e1
  rw [PySem.W.krv_sliceRange, List.filterMap_map] at e1
  rw [← e1]
  congr 1
  refine fm_congr fun m hm => ?_
  have := List.mem_range.mp hm
  show xs[_]? = xs[xs.size - 1 - m]?
  congr 1
  omega
theorem getItem_tuple_rev {t sl : Addr} {items : Array Value} {vl vu vs : Value} {Q : Value → Shared → Prop} (ht : IsTup s.heap t items) (hs : s.heap.IsSliceOf sl vl vu vs) (pl : IsPart vl none) (pu : IsPart vu none) (ps : IsPart vs (some (-1)))
    (h : Q (.ref s.heap.objs.size) { s with heap := s.heap.push { cls := .type "tuple", data := .seq items.toList.reverse.toArray } })
    (hsz : items.size ≤ sizeLine) : wpAny (model prog w) A (getItem (.ref t) (.ref sl)) Q E s := by
  have htake : sizeOk (.seq items.toList.reverse.toArray) := by
    show items.toList.reverse.toArray.size ≤ sizeLine
    rw [List.size_toArray, List.length_reverse, Array.length_toList]
    exact hsz
  obtain ⟨os, hos, hcs, hds⟩ := id hs
  have hTs : s.TypeIs (.ref sl) "slice" := ⟨os, hos, hcs⟩
  unfold getItem
  try with_reducible refine wpAny_holding ?_
  first | refine wpAny_bind (wpAny_pure ?_) | skip
  refine wpAny_bind (wpAny_sequenceKey ht.typeIs (by decide) ?_)
  refine wpAny_bind (wpAny_callSpecial?_slot (name := Str.ofString "__getitem__") ht.typeIs PyProof.Rows.slot_tuple_getitem
    (wpAny_call_entry PyProof.Rows.slot_tuple_getitem ht.typeIs PyProof.Rows.entry_tuple_getitem ?_ (PyProof.Rows.args_tuple_getitem _ _)))
  show wpAny _ _ (Builtin.Tuple.tupleItemsOf (.ref t) >>= _) _ _ s
  refine wpAny_bind (PyProof.Rows.tupleItemsOf_ ht ?_)
  refine wpAny_bind (wpAny_typeOf hTs ?_)
  rw [if_pos (by decide)]
  refine wpAny_bind (sliceApplied_rev hs pl pu ps ?_)
  show wpAny _ _ (if ((((items.size : Int) - 1) == 0 && (-1 : Int) == 1 && items.size == items.size) = true) then _ else _) _ _ s
  rw [if_neg (by simp), pick_rev]
  first
    | exact wpAny_bind (m := Builtin.Tuple.tupleExact _) (wpAny_newObj_type (wpAny_pure ⟨_, rfl, wpAny_pure h⟩) htake)
    | exact wpAny_bind (m := Builtin.Tuple.tupleExact _) (wpAny_newObj_type (wpAny_bind (wpAny_pure (wpAny_pure ⟨_, rfl, wpAny_pure h⟩))) htake)
    | exact wpAny_bind (wpAny_bind (m := Builtin.Tuple.tupleExact _) (wpAny_newObj_type (wpAny_pure (wpAny_pure ⟨_, rfl, wpAny_pure h⟩)) htake))
    | exact wpAny_bind (wpAny_bind (m := Builtin.Tuple.tupleExact _) (wpAny_newObj_type (wpAny_pure ⟨_, rfl, wpAny_pure h⟩) htake))
end
section
variable {X : Cx} {ca : Nat → Addr} {W : WX} {a : Expr} {f : Rf.Env → Mem → Res D} {pos : Pos}
def tRevT (K : PySem.W.Frag) (te : TE) : TE := fun σ H Q => te σ H fun x H1 => ∃ a xs, x = .ref a ∧ SqT K H1 a xs ∧ ∀ p, H1 p = none → Q (.ref p) (upd H1 p (.tup xs.reverse))
theorem pe_revT {e : Expr} {te : TE} {k : Nat} {p1 p2 p3 pos : Pos} (he : PE X e te) : PE X (.Subscript e (.Slice none none (some (.UnaryOp .USub (.Constant (.int 1) k p1) p2)) p3) pos) (tRevT X.K te) := by
  refine ⟨fun pins s σ H Q I h => ?_⟩
  refine Subscript_ (thn (he.run pins s σ H _ I h) fun v s1 ⟨x, H1, I1, r1, q1⟩ => ?_)
  obtain ⟨a, xs, ex, hx, q⟩ := q1
  subst ex
  cases r1
  have hst : PO X (some (.UnaryOp .USub (.Constant (.int 1) k p1) p2)) (tPart (tUn (rU fun i => .int (-i)) (tC (.int 1)))) := po_some (pe_un un_neg pe_int)
  refine wpAny_Slice (thn (po_none.run pins s1 σ H1 (fun o H2 => o = none ∧ H2 = H1) I1 ⟨rfl, rfl⟩) fun vl s2 ⟨l, H2, I2, pl, el, e2⟩ => ?_)
  subst el e2
  refine thn (po_none.run pins s2 σ H2 (fun o H3 => o = none ∧ H3 = H2) I2 ⟨rfl, rfl⟩) fun vu s3 ⟨u, H3, I3, pu, eu, e3⟩ => ?_
  subst eu e3
  refine thn (hst.run pins s3 σ H3 (fun o H4 => o = some (-1) ∧ H4 = H3) I3 ⟨1, rfl, -1, rfl, rfl, rfl⟩) fun vs s4 ⟨o, H4, I4, ps, eo, e4⟩ => ?_
  subst eo e4
  have I5 : Inv X pins σ H4 { s4 with heap := s4.heap.push { cls := .type "slice", data := .fields #[vl, vu, vs] } } := I4.kept (t' := s4.toks) fun b ob q => Heap.get?_push_of_some _ q
  obtain ⟨its, r, ht, hz⟩ := I5.tuple hx
  have hlen := r.length
  show wpAny (model X.prog X.w) X.A (subscriptTail e (.Slice none none (some (.UnaryOp .USub (.Constant (.int 1) k p1) p2)) p3) (.ref a) (.ref s4.heap.objs.size)) (EP X pins σ Q) X.xe { s4 with heap := s4.heap.push { cls := .type "slice", data := .fields #[vl, vu, vs] } }
  refine tail_any (ops := [.ref a, .ref s4.heap.objs.size]) ht.typeIs PyProof.Rows.slot_tuple_getitem.lookup ?_ (by with_unfolding_all rfl)
  refine getItem_tuple_rev ht (Heap.IsSliceOf.new _ vl vu vs) pl pu ps ?_ (by rw [List.size_toArray]; omega)
  refine ⟨.ref _, _, I5.laid (t' := s4.toks) (o := .tup xs.reverse) (fun b ob q => Heap.get?_push_of_some _ q) (Nat.le_refl _) ?_, rfl, q _ (I5.hok.fresh (Nat.le_refl _))⟩
  exact ⟨by rw [List.length_reverse]; exact hz, _, r.reverse, IsTup.new _ _⟩
theorem e_revA {k : Nat} {p1 p2 p3 : Pos} (ha : PE X a (tE X.K ca W f)) : PE X (.Subscript a (.Slice none none (some (.UnaryOp .USub (.Constant (.int 1) k p1) p2)) p3) pos)
    (tE X.K ca W fun env M => (f env M).bind fun x M => lift (eRev x) M) := by
  refine ⟨fun pins s σ H R I ⟨p, F, env, M, rm, re, q⟩ => ?_⟩
  have q : At X.K ca W σ (Rel X.K) p F H ((f env M).bind fun x M => lift (eRev x) M) R := q
  cases z : f env M with
  | none => rw [z] at q; obtain ⟨r, e, _⟩ := q; cases e
  | some r =>
    rw [z] at q
    cases r with
    | er x M' =>
      have q : At X.K ca W σ (Rel X.K) p F H (some (.er x M')) R := q
      exact (pe_revL ha).run pins s σ H R I ⟨p, F, env, M, rm, re, by rw [z]; exact q.erI⟩
    | ok d M' =>
      have q : At X.K ca W σ (Rel X.K) p F H (lift (eRev d) M') R := q
      cases d with
      | lst xs =>
        have q1 : At X.K ca W σ (Rel X.K) p F H (f env M) (fun v H1 => ∃ a xs, v = .ref a ∧ SqL X.K H1 a xs ∧ ∀ z, H1 z = none → R (.ref z) (upd H1 z (.lst xs.reverse))) := by
          rw [z]
          refine ⟨_, rfl, fun p' F' H' v s' rm' rel => ?_⟩
          cases rel with
          | lst h1 r1 => exact ⟨_, _, rfl, .inl (.inl (rm'.fro _ _ h1)), fun z hz => new_lst rm' hz r1.reverse ((At.new (d := .lst xs.reverse) (M := M') q) |> fun k p2 F2 H2 v2 s2 => k p2 F2 H2 v2 (s'.trans s2))⟩
        exact (pe_revL ha).run pins s σ H R I ⟨p, F, env, M, rm, re, q1⟩
      | tup xs =>
        have q1 : At X.K ca W σ (Rel X.K) p F H (f env M) (fun v H1 => ∃ a xs, v = .ref a ∧ SqT X.K H1 a xs ∧ ∀ z, H1 z = none → R (.ref z) (upd H1 z (.tup xs.reverse))) := by
          rw [z]
          refine ⟨_, rfl, fun p' F' H' v s' rm' rel => ?_⟩
          cases rel with
          | tup h1 r1 => exact ⟨_, _, rfl, h1.sq rm', fun z hz => new_tup rm' hz r1.reverse ((At.new (d := .tup xs.reverse) (M := M') q) |> fun k p2 F2 H2 v2 s2 => k p2 F2 H2 v2 (s'.trans s2))⟩
        exact (pe_revT ha).run pins s σ H R I ⟨p, F, env, M, rm, re, q1⟩
      | _ => obtain ⟨r, e, _⟩ := q; cases e
end
end Rf
end T_RfRev
section T_RfMore
set_option Elab.async false
set_option linter.all false
set_option maxRecDepth 100000
set_option maxHeartbeats 1000000
/-! Rf: f-strings, dict displays, counting, stores into dicts in one assignment -/
namespace Rf
open PySem PySem.Spec PyProof.Rows L2
section
variable {X : Cx} {ca : Nat → Addr} {W : WX} {e a b c : Expr} {es : List Expr} {f g h : Rf.Env → Mem → Res D} {pos : Pos}
theorem e_fmt (ha : PE X a (tE X.K ca W f)) : PE X (.FormattedValue a (-1) none pos) (tE X.K ca W fun env M => (f env M).bind fun x M => lift (eFmt x) M) := by
  refine pe_imp (pe_fmt ha) fun σ H Q ⟨p, F, env, M, rm, re, q⟩ => ?_
  refine ⟨p, F, env, M, rm, re, q.bind.imp fun x H1 ⟨p1, F1, M1, d, s1, rm1, r1, q1⟩ => ?_⟩
  obtain ⟨r, e1, q2⟩ := q1.lift_
  cases r1 with
  | str y =>
    have e1 : (if y.length ≤ sizeLine then some (D.str y) else none) = some r := e1
    split at e1
    · rename_i hl; cases e1; exact .inl ⟨y, rfl, hl, q2 _ _ _ _ (Step.refl ..) rm1 (.str _)⟩
    · cases e1
  | int i =>
    have e1 : (if i.natAbs.log2 < 1920 then some (D.str (toString i)) else none) = some r := e1
    split at e1
    · rename_i hl; cases e1; exact .inr ⟨i, rfl, hl, q2 _ _ _ _ (Step.refl ..) rm1 (.str _)⟩
    · cases e1
  | _ => cases e1
/-- the parts of an f-string -/
inductive PJE (X : Cx) (ca : Nat → Addr) (W : WX) (cl : Calls) : List Expr → CEs → Prop where
  | nil : PJE X ca W cl [] .nil
  | cons {e : Expr} {ce : CE} {es : List Expr} {ces : CEs} (h : PE X e (tE X.K ca W (ev cl ce))) (r : PJE X ca W cl es ces) : PJE X ca W cl (e :: es) (.cons ce ces)
def tJl (K : PySem.W.Frag) (ca : Nat → Addr) (W : WX) (cl : Calls) : CEs → List TE
  | .nil => []
  | .cons ce ces => tE K ca W (ev cl ce) :: tJl K ca W cl ces
theorem PJE.pj {cl : Calls} {es : List Expr} {ces : CEs} (h : PJE X ca W cl es ces) : PJ X es (tJl X.K ca W cl ces) := by
  induction h with
  | nil => exact .nil
  | cons h r ih => exact .cons h ih
theorem js_read {cl : Calls} {σ : L2.St} {Q : VK} : ∀ (ces : CEs) (acc : Str) (p : Ph) (F H : Hp) (env : Rf.Env) (M : Mem), RM X.K p F M H → RE X.K p F env σ → At X.K ca W σ (Rel X.K) p F H (evJ cl ces acc env M) Q →
    tJs (tJl X.K ca W cl ces) acc σ H fun out H1 => Q (.str out) H1
  | .nil, acc, p, F, H, env, M, rm, re, q => by
    have q : At X.K ca W σ (Rel X.K) p F H (ok (.str acc) M) Q := q
    show Q (.str acc) H
    exact q.ok_ rm (.str _)
  | .cons ce ces, acc, p, F, H, env, M, rm, re, q => by
    have q : At X.K ca W σ (Rel X.K) p F H ((ev cl ce env M).bind fun x M => match x with
      | .str y => if (acc ++ y).length ≤ sizeLine then evJ cl ces (acc ++ y) env M else none
      | _ => none) Q := q
    refine ⟨p, F, env, M, rm, re, q.bind.imp fun x H1 ⟨p1, F1, M1, d, s1, rm1, r1, q1⟩ => ?_⟩
    cases r1 with
    | str y =>
      have q1 : At X.K ca W σ (Rel X.K) p1 F1 H1 (if (acc ++ y).length ≤ sizeLine then evJ cl ces (acc ++ y) env M1 else none) Q := q1
      obtain ⟨hl, q2⟩ := q1.cond
      exact ⟨y, rfl, hl, js_read ces (acc ++ y) p1 F1 H1 env M1 rm1 (re.mono s1.toLe) q2⟩
    | _ => obtain ⟨r, e, _⟩ := q1; cases e
theorem e_fstr {cl : Calls} {v1 v2 : Expr} {rest : List Expr} {ces : CEs} (h : PJE X ca W cl (v1 :: v2 :: rest) ces) : PE X (.JoinedStr (v1 :: v2 :: rest) pos) (tE X.K ca W fun env M => evJ cl ces Str.empty env M) :=
  pe_imp (pe_joined h.pj) fun σ H Q ⟨p, F, env, M, rm, re, q⟩ => js_read ces Str.empty p F H env M rm re q
/-! ### list.count of texts -/
def eqs (x : Str) (v : Value) : Bool := match v with
  | .str y _ => y == x
  | _ => false
theorem eqs_gives {x : Str} {t : Tok} : ∀ {us : List Value} {l : List Str}, Vals (l.map V.str) us → ∀ y ∈ us, MeetsSeq.EqGives y (.str x t) (eqs x y)
  | us, [], h => fun y hy => by rw [List.map_nil] at h; cases h; cases hy
  | us, a :: l, h => fun y hy => by
    rw [List.map_cons] at h
    cases h with
    | cons r rr =>
      obtain ⟨u, rfl⟩ := r
      rcases List.mem_cons.mp hy with e | e
      · rw [e]; exact eqGives_str a x u t
      · exact eqs_gives rr y e
theorem eqs_count {x : Str} : ∀ {us : List Value} {l : List Str}, Vals (l.map V.str) us → us.countP (eqs x) = (l.filter fun y => decide (y = x)).length
  | us, [], h => by rw [List.map_nil] at h; cases h; rfl
  | us, a :: l, h => by
    rw [List.map_cons] at h
    cases h with
    | cons r rr =>
      obtain ⟨u, rfl⟩ := r
      have ih := eqs_count (x := x) rr
      rw [List.countP_cons, ih, List.filter_cons]
      show _ + (if (a == x) = true then 1 else 0) = _
      by_cases hx : a = x
      · subst hx; simp
      · simp [hx]
theorem mt_countD : MtR X "list.count" (fun x xs => rA X.K (fun _ => bCount) (x :: xs)) := by
  intro pins s σ H x xs v us Q I rx rs h
  obtain ⟨p, F, M, ds, d, rm, rl, he, q⟩ := h
  have he : bCount ds = some d := he
  unfold bCount at he
  split at he
  · rename_i xs0 x' heq
    split at he
    · rename_i l hl
      cases he
      obtain ⟨a, b, e, h1, h2⟩ := two_of rl
      cases e
      cases h2
      cases h1 with
      | @lst ad vs _ h s1 =>
        have e2 := strs_of _ _ _ s1 hl
        subst e2
        cases rx
        obtain ⟨u, rfl, ru⟩ := rs.one
        obtain ⟨t, rfl⟩ := ru
        have hs : SqL X.K H ad (l.map V.str) := .inl (.inl (rm.fro _ _ h))
        obtain ⟨its, rv, ⟨⟨cls, dd, data, sl⟩, n, ho, hc, hdn, hd⟩, hlen⟩ := I.list hs
        simp only at hc hd
        subst hc hd
        refine call_meets PySem.F.slot_list_count ⟨_, ho, rfl⟩ PySem.F.entry_list_count (PySem.F.args_list_count_2 _ _)
          (SeqAt.list_countAt ad its.toArray n dd sl (.str _ t) (eqs _)) ⟨ho, fun y hy => (eqs_gives rv y (by simpa using hy)).at _ _, ?_⟩
        have ec := eqs_count (x := x') rv
        refine ⟨.int ((l.filter fun y => decide (y = x')).length : Nat), H, I.tok _, ⟨s.toks, ?_⟩, q _ _ _ _ (Step.refl ..) rm (.int _)⟩
        show Value.int ((its.toArray.toList.countP (eqs x') : Nat) : Int) s.toks = Value.int (((l.filter fun y => decide (y = x')).length : Nat) : Int) s.toks
        rw [show its.toArray.toList = its from rfl, ec]
    · cases he
  · cases he
theorem e_count {apos : Pos} (ha : PE X a (tE X.K ca W f)) (hes : PE X e (tE X.K ca W g)) (hs : isStar e = false) (hp : plainRecv a = true) (hl : (apos.endLine == pos.line) = true) :
    PE X (.Call (.Attribute a "count" apos) [e] [] pos) (tE X.K ca W fun env M => (f env M).bind fun x M => (lift (recv M .count x) M).bind fun _ M => ((g env M).bind fun y M => (ok [] M).bind fun ys M => ok (y :: ys) M).bind fun xs M => lift (eBi M .count (x :: xs)) M) := by
  refine pe_imp (pe_bm PySem.F.plainAttrs_list PySem.F.slot_list_count PySem.F.type_list_count mt_countD ha (pa_cons hes pa_nil (star_cons hs)) (base_of hp) (few1 hs) hl (star_cons hs) rfl) fun σ H Q ⟨p, F, env, M, rm, re, q⟩ => ?_
  refine ⟨p, F, env, M, rm, re, q.bind.imp fun x H1 ⟨p1, F1, M1, d, s1, rm1, r1, q1⟩ => ?_⟩
  obtain ⟨z, e1, q2⟩ := lift_some q1
  cases r1 with
  | @lst ad vs ds h1 rs1 =>
    refine ⟨.inl ⟨rfl, vs, .inl (.inl (rm1.fro _ _ h1))⟩, p1, F1, env, M1, rm1, re.mono s1.toLe, ?_⟩
    refine ((q2.bind (rel1 := Rels X.K)).bind (rel1 := Rel X.K) (Q := fun vs H2 => ∃ p1' F1' M1' d, Step p1 F1 H1 p1' F1' H2 ∧ RM X.K p1' F1' M1' H2 ∧ Rels X.K p1' F1' vs d ∧ At X.K ca W σ (Rel X.K) p1' F1' H2 (lift (eBi M1' .count (.lst ds :: d)) M1') Q)).imp fun y H2 ⟨p2, F2, M2, e, s2, rm2, r2, q3⟩ => ?_
    have q4 := (At.ok_ (v := [y]) rm2 q3 (.cons r2 .nil))
    obtain ⟨p3, F3, M3, ds3, s3, rm3, r3, q5⟩ := q4
    obtain ⟨r, e5, q6⟩ := q5.lift_
    have l3 := s3.toLe
    exact ⟨p3, F3, M3, _, r, rm3, .cons (.lst (l3.lst _ _ h1) (rs1.mono l3)) r3, e5, q6⟩
  | _ => cases e1
/-! ### a sum that is to change -/
theorem op_addC {X : Cx} : OpR X (binaryOp .Add) (fun x y H Q => ∃ p F M d e r M', RM X.K p F M H ∧ Rel X.K p F x d ∧ Rel X.K p F y e ∧ eAddM M d e = some (r, M') ∧ ∀ p' F' H' v, Step p F H p' F' H' → RM X.K p' F' M' H' → Rel X.K p' F' v r → Q v H') := by
  intro pins s σ H x y v u Q I rx ry h
  obtain ⟨p, F, M, d, e, r, M', rm, r1, r2, he, q⟩ := h
  cases r1 <;> cases r2 <;> first | (cases he; done) | skip
  case lst.lst _ _ a h1 s1 _ _ b h2 s2 =>
    have he : (if a.length + b.length ≤ sizeLine ∧ D.lows 0 (a ++ b) = true then some (D.cell M.length, M ++ [.lst (a ++ b)]) else none) = some (r, M') := he
    split at he
    · cases he
      rename_i hl
      exact op_cat pins s σ H _ _ v u Q I rx ry ⟨_, _, _, _, rfl, rfl, rm.fro _ _ h1, rm.fro _ _ h2, by rw [s1.length, s2.length]; exact hl.1, fun z hz => new_cell (c := .lst (a ++ b)) rm hz ⟨_, upd_same, (s1.append s2).mono (le_cell rm), hl.2⟩ q⟩
    · cases he
  case cell.lst n _ h1 _ _ b h2 s2 =>
    have he : (match M[n]? with
      | some (.lst a) => if a.length + b.length ≤ sizeLine ∧ D.lows 0 (a ++ b) = true then some (D.cell M.length, M ++ [.lst (a ++ b)]) else none
      | _ => none) = some (r, M') := he
    split at he
    · rename_i a hm
      split at he
      · cases he
        rename_i hl
        obtain ⟨_, xs, e1, s1, _⟩ := rm.cell _ _ _ h1 hm (by intro z; cases z)
        exact op_cat pins s σ H _ _ v u Q I rx ry ⟨_, _, _, _, rfl, rfl, e1, rm.fro _ _ h2, by rw [s1.length, s2.length]; exact hl.1, fun z hz => new_cell (c := .lst (a ++ b)) rm hz ⟨_, upd_same, (s1.append s2).mono (le_cell rm), hl.2⟩ q⟩
      · cases he
    · cases he
theorem e_addM (ha : PE X a (tE X.K ca W f)) (hb : PE X b (tE X.K ca W g)) :
    PE X (.BinOp a .Add b pos) (tE X.K ca W fun env M => (f env M).bind fun x M => (g env M).bind fun y M => match eAddM M x y with
      | some (d, M) => ok d M
      | none => none) := by
  refine pe_imp (pe_op op_addC ha hb) fun σ H Q ⟨p, F, env, M, rm, re, q⟩ => ?_
  refine ⟨p, F, env, M, rm, re, q.bind.imp fun x H1 ⟨p1, F1, M1, d, s1, rm1, r1, q1⟩ => ?_⟩
  refine ⟨p1, F1, env, M1, rm1, re.mono s1.toLe, q1.bind.imp fun y H2 ⟨p2, F2, M2, e, s2, rm2, r2, q2⟩ => ?_⟩
  split at q2
  · rename_i r M' hr
    exact ⟨p2, F2, M2, d, e, r, M', rm2, r1.mono s2.toLe, r2, hr, q2.new⟩
  · obtain ⟨r, e, _⟩ := q2; cases e
end
/-! ### a new cell out of a thing that stands -/
section
variable {K : PySem.W.Frag} {p1 p2 : Ph} {F1 F2 H1 H : Hp} {M : Mem} {q : Addr} {c : Cell}
theorem step_adopt (s : Step p1 F1 H1 p2 F2 H) (rm : RM K p2 F2 M H) (h : H1 q = none) : Step p1 F1 H1 (phNew p2 M.length q) F2 H where
  toLe := s.toLe.trans (le_cell rm)
  keep := s.keep
  there := s.there
  new := fun n a e => by
    by_cases hn : n = M.length
    · subst hn; rw [phNew_same] at e; cases e; exact .inr h
    · rw [phNew_ne hn] at e; exact s.new n a e
  fnew := s.fnew
  fk := s.fk
theorem rm_adopt (r : RM K p2 F2 M H) (hF : F2 q = none) (hp : ∀ n, p2 n ≠ some q) (hH : H q ≠ none) (hc : CellOk K (phNew p2 M.length q) F2 H q c) : RM K (phNew p2 M.length q) F2 (M ++ [c]) H where
  fro := r.fro
  dom := fun n => by
    rw [List.length_append, List.length_singleton]
    by_cases hn : n = M.length
    · subst hn; rw [phNew_same]; exact ⟨fun _ => ⟨q, rfl⟩, fun _ => Nat.lt_succ_self _⟩
    · rw [phNew_ne hn, ← r.dom n]; omega
  inj := fun n m a e1 e2 => by
    by_cases hn : n = M.length
    · by_cases hm : m = M.length
      · rw [hn, hm]
      · subst hn; rw [phNew_same] at e1; cases e1
        rw [phNew_ne hm] at e2
        exact absurd e2 (hp m)
    · rw [phNew_ne hn] at e1
      by_cases hm : m = M.length
      · subst hm; rw [phNew_same] at e2; cases e2
        exact absurd e1 (hp n)
      · rw [phNew_ne hm] at e2; exact r.inj n m a e1 e2
  liv := fun n a e => by
    by_cases hn : n = M.length
    · subst hn; rw [phNew_same] at e; cases e; exact hH
    · rw [phNew_ne hn] at e; exact r.liv n a e
  cell := fun n a d e1 e2 hd => by
    by_cases hn : n = M.length
    · subst hn
      rw [phNew_same] at e1; cases e1
      rw [List.getElem?_append_right (Nat.le_refl _), Nat.sub_self] at e2
      cases e2
      exact ⟨hF, hc⟩
    · rw [phNew_ne hn] at e1
      have hlt : n < M.length := (r.dom n).mpr ⟨a, e1⟩
      rw [List.getElem?_append_left hlt] at e2
      obtain ⟨h1, h2⟩ := r.cell n a d e1 e2 hd
      exact ⟨h1, h2.keep (le_cell r) rfl⟩
end
/-! ### {k: v, ..} -/
def keyE (k : Key) : Expr → Bool
  | .Constant (.str s) _ _ => match k with | .inr z => decide (s = z) | _ => false
  | .Constant (.int i) _ _ => match k with | .inl j => decide (i = j) | _ => false
  | _ => false
section
variable {X : Cx} {ca : Nat → Addr} {W : WX} {pos : Pos}
theorem e_key {k : Key} {e : Expr} (h : keyE k e = true) : PE X e (tC (kV k)) := by
  cases e <;> first | (cases h; done) | skip
  rename_i c j p
  cases c <;> first | (cases h; done) | skip
  · cases k <;> first | (cases h; done) | skip
    cases (of_decide_eq_true h : _ = _)
    exact pe_int
  · cases k <;> first | (cases h; done) | skip
    cases (of_decide_eq_true h : _ = _)
    exact pe_str
/-- a display's parts -/
inductive DE (X : Cx) (ca : Nat → Addr) (W : WX) (cl : Calls) : List (Option Expr) → List Expr → List Key → CEs → Prop where
  | nil : DE X ca W cl [] [] [] .nil
  | cons {ke e : Expr} {kes : List (Option Expr)} {es : List Expr} {k : Key} {ks : List Key} {ce : CE} {ces : CEs} (hk : keyE k ke = true) (h : PE X e (tE X.K ca W (ev cl ce))) (r : DE X ca W cl kes es ks ces) : DE X ca W cl (some ke :: kes) (e :: es) (k :: ks) (.cons ce ces)
def tDl (K : PySem.W.Frag) (ca : Nat → Addr) (W : WX) (cl : Calls) : List Key → CEs → List (TE × TE)
  | k :: ks, .cons ce ces => (tC (kV k), tE K ca W (ev cl ce)) :: tDl K ca W cl ks ces
  | _, _ => []
theorem DE.pps {cl : Calls} {kes : List (Option Expr)} {es : List Expr} {ks : List Key} {ces : CEs} (h : DE X ca W cl kes es ks ces) : PPs X pos kes es (tDl X.K ca W cl ks ces) ∧ kes.all (·.isSome) = true ∧ kes.length = es.length ∧ ks.length = kes.length := by
  induction h with
  | nil => exact ⟨pps_nil, rfl, rfl, rfl⟩
  | cons hk h r ih =>
    obtain ⟨h1, h2, h3, h4⟩ := ih
    refine ⟨pps_cons (e_key hk) h h1, ?_, by rw [List.length_cons, List.length_cons, h3], by rw [List.length_cons, List.length_cons, h4]⟩
    rw [List.all_cons, h2]; rfl
theorem dl_read {cl : Calls} {σ : L2.St} {Q : List (V × V) → Hp → Prop} : ∀ (ks : List Key) (ces : CEs) (es : List Expr) (kes : List (Option Expr)), DE X ca W cl kes es ks ces → ∀ (p : Ph) (F H : Hp) (env : Rf.Env) (M : Mem), RM X.K p F M H → RE X.K p F env σ →
    At X.K ca W σ (Rels X.K) p F H (evs cl ces env M) (fun vs H' => Q ((ks.zip vs).map fun kv => (kV kv.1, kv.2)) H') → tPairs (tDl X.K ca W cl ks ces) σ H Q
  | [], .nil, _, _, .nil, p, F, H, env, M, rm, re, q => by
    have q : At X.K ca W σ (Rels X.K) p F H (ok [] M) _ := q
    exact (At.sub (γ := Nat) q) p F H [] (Step.refl ..) rm .nil
  | k :: ks, .cons ce ces, _, _, .cons hk h r, p, F, H, env, M, rm, re, q => by
    have q : At X.K ca W σ (Rels X.K) p F H ((ev cl ce env M).bind fun x M => (evs cl ces env M).bind fun xs M => ok (x :: xs) M) _ := q
    show tE X.K ca W (ev cl ce) σ H fun y H2 => tPairs (tDl X.K ca W cl ks ces) σ H2 fun ps H3 => Q ((kV k, y) :: ps) H3
    refine ⟨p, F, env, M, rm, re, (q.bind (rel1 := Rel X.K)).imp fun x H1 ⟨p1, F1, M1, d, s1, rm1, r1, q1⟩ => ?_⟩
    refine dl_read ks ces _ _ r p1 F1 H1 env M1 rm1 (re.mono s1.toLe) ((q1.bind (rel1 := Rels X.K)).imp fun xs H2 ⟨p2, F2, M2, ds, s2, rm2, r2, q2⟩ => ?_)
    exact (At.sub (γ := Nat) q2) p2 F2 H2 (x :: xs) (Step.refl ..) rm2 (.cons (r1.mono s2.toLe) r2)
theorem merge_zip : ∀ (kvs : List (Key × V)) (l : List (Key × D)) (ks : List Key) (xs : List V), ks.length = xs.length → ∃ ys, mergeK (ks.zip xs) kvs = (kvs.foldl (fun a p => putD a.1 a.2 p.1 p.2) (ks, xs)).1.zip ys ∧ ys = (kvs.foldl (fun a p => putD a.1 a.2 p.1 p.2) (ks, xs)).2 ∧ (kvs.foldl (fun a p => putD a.1 a.2 p.1 p.2) (ks, xs)).1.length = ys.length
  | [], l, ks, xs, h => ⟨xs, rfl, rfl, h⟩
  | kv :: kvs, l, ks, xs, h => by
    obtain ⟨ys, h1, h2, h3⟩ := merge_zip kvs l (putD ks xs kv.1 kv.2).1 (putD ks xs kv.1 kv.2).2 (putD_len h)
    refine ⟨ys, ?_, h2, h3⟩
    show mergeK (putK (ks.zip xs) kv.1 kv.2) kvs = _
    rw [putK_put h]
    exact h1
theorem fold_rel {K : PySem.W.Frag} {p : Ph} {F : Hp} : ∀ (ks : List Key) (vs : List V) (ds : List D) (k0 : List Key) (v0 : List V) (d0 : List D), Rels K p F vs ds → Rels K p F v0 d0 →
    ((ks.zip vs).foldl (fun a p => putD a.1 a.2 p.1 p.2) (k0, v0)).1 = ((ks.zip ds).foldl (fun a p => putD a.1 a.2 p.1 p.2) (k0, d0)).1 ∧ Rels K p F ((ks.zip vs).foldl (fun a p => putD a.1 a.2 p.1 p.2) (k0, v0)).2 ((ks.zip ds).foldl (fun a p => putD a.1 a.2 p.1 p.2) (k0, d0)).2
  | [], vs, ds, k0, v0, d0, r, r0 => ⟨rfl, r0⟩
  | k :: ks, [], [], k0, v0, d0, r, r0 => ⟨rfl, r0⟩
  | k :: ks, [], _ :: _, k0, v0, d0, r, r0 => by cases r
  | k :: ks, _ :: _, [], k0, v0, d0, r, r0 => by cases r
  | k :: ks, v :: vs, d :: ds, k0, v0, d0, r, r0 => by
    have h1 : Rel K p F v d := by cases r with | cons h _ => exact h
    have h2 : Rels K p F vs ds := by cases r with | cons _ h => exact h
    have e : (putD k0 v0 k v).1 = (putD k0 d0 k d).1 := putD_keys
    have ih := fold_rel ks vs ds (putD k0 v0 k v).1 (putD k0 v0 k v).2 (putD k0 d0 k d).2 h2 (r0.put h1)
    rw [List.zip_cons_cons, List.zip_cons_cons, List.foldl_cons, List.foldl_cons]
    rw [show (putD (k0, d0).1 (k0, d0).2 (k, d).1 (k, d).2) = ((putD k0 v0 k v).1, (putD k0 d0 k d).2) by rw [e]]
    exact ih
theorem lows_fold : ∀ (ks : List Key) (ds : List D) (k0 : List Key) (d0 : List D), D.lows 0 ds = true → D.lows 0 d0 = true → D.lows 0 ((ks.zip ds).foldl (fun a p => putD a.1 a.2 p.1 p.2) (k0, d0)).2 = true
  | [], ds, k0, d0, h, h0 => h0
  | k :: ks, [], k0, d0, h, h0 => h0
  | k :: ks, d :: ds, k0, d0, h, h0 => by
    rw [List.zip_cons_cons, List.foldl_cons]
    exact lows_fold ks ds _ _ (lows_cons.mp h).2 (lows_put (lows_cons.mp h).1 h0)
theorem e_dicM {cl : Calls} {kes : List (Option Expr)} {es : List Expr} {ks : List Key} {ces : CEs} (h : DE X ca W cl kes es ks ces) (h0 : kes ≠ []) (h15 : kes.length ≤ 15) :
    PE X (.Dict kes es pos) (tE X.K ca W fun env M => (evs cl ces env M).bind fun xs M => if ks.length = xs.length ∧ ks.length ≤ 15 ∧ D.lows 0 xs = true then ok (.cell M.length) (M ++ [.dic (mergeD (ks.zip xs)).1 (mergeD (ks.zip xs)).2]) else none) := by
  obtain ⟨g1, g2, g3, g4⟩ := h.pps (pos := pos)
  refine pe_imp (pe_disp g1 g2 g3 h0 h15) fun σ H Q ⟨p, F, env, M, rm, re, q⟩ => ?_
  intro z hz
  have hp : ∀ n, p n ≠ some z := fun n e => rm.liv n z e hz
  have st := step_out (o := .dK []) (Step.refl p F H) hz
  have rm0 := rm_out (o := .dK []) rm (rm.free hz) hp
  refine dl_read ks ces es kes h p F _ env M rm0 re ?_
  have q : At X.K ca W σ (Rel X.K) p F H ((evs cl ces env M).bind fun xs M => if ks.length = xs.length ∧ ks.length ≤ 15 ∧ D.lows 0 xs = true then ok (.cell M.length) (M ++ [.dic (mergeD (ks.zip xs)).1 (mergeD (ks.zip xs)).2]) else none) Q := q
  cases ze : evs cl ces env M with
  | none => rw [ze] at q; obtain ⟨r, e, _⟩ := q; cases e
  | some r =>
    rw [ze] at q
    cases r with
    | er x M' =>
      have q : At X.K ca W σ (Rel X.K) p F H (some (.er x M')) Q := q
      exact (q.move st).erI
    | ok ds M1 =>
      have q : At X.K ca W σ (Rel X.K) p F H (if ks.length = ds.length ∧ ks.length ≤ 15 ∧ D.lows 0 ds = true then ok (.cell M1.length) (M1 ++ [.dic (mergeD (ks.zip ds)).1 (mergeD (ks.zip ds)).2]) else none) Q := q
      obtain ⟨hl, q2⟩ := q.cond
      refine ⟨_, rfl, fun p1 F1 H1 vs s1 rm1 r1 => ?_⟩
      obtain ⟨k1, k2, k3⟩ := out_keep s1 upd_same hp (rm.free hz)
      refine ⟨k1, ks.zip vs, rfl, by rw [List.length_zip, r1.length, ← hl.1, Nat.min_self]; exact hl.2.1, ?_⟩
      obtain ⟨ys, m1, m2, m3⟩ := merge_zip (ks.zip vs) [] [] [] rfl
      obtain ⟨f1, f2⟩ := fold_rel ks vs ds [] [] [] r1 .nil
      have rm2 := rm_out (o := .dK (mergeK [] (ks.zip vs))) rm1 k3 k2
      have s2 := step_out (o := .dK (mergeK [] (ks.zip vs))) (st.trans s1) hz
      have s3 := step_adopt s2 rm2 hz
      refine q2.new _ _ _ _ s3 (rm_adopt rm2 k3 k2 (by rw [upd_same]; simp) ⟨ys, ?_, ?_, ?_, lows_fold ks ds [] [] hl.2.2 rfl⟩) (.cell phNew_same)
      · rw [upd_same]
        have m1 : mergeK [] (ks.zip vs) = _ := m1
        rw [m1, f1]
        rfl
      · rw [f1] at m3; exact m3
      · rw [m2]; exact f2.mono (le_cell rm2)
end
end Rf
end T_RfMore
section T_RfSetDs
set_option Elab.async false
set_option linter.all false
set_option maxRecDepth 100000
set_option maxHeartbeats 1000000
/-! Rf: d[i], d[j] = .. -/
namespace Rf
open PySem PySem.Spec PyProof.Rows L2
section
variable {X : Cx} {ca : Nat → Addr} {W : WX} {cl : Calls}
inductive SD (X : Cx) (ca : Nat → Addr) (W : WX) (cl : Calls) : List Expr → CEs → CEs → Prop where
  | nil : SD X ca W cl [] .nil .nil
  | cons {o i : Expr} {pos : Pos} {es : List Expr} {co ci : CE} {cos cis : CEs} (hs : isSlice i = false) (ho : PE X o (tE X.K ca W (ev cl co))) (hi : PE X i (tE X.K ca W (ev cl ci))) (r : SD X ca W cl es cos cis) : SD X ca W cl (.Subscript o i pos :: es) (.cons co cos) (.cons ci cis)
def tDs (K : PySem.W.Frag) (ca : Nat → Addr) (W : WX) (cl : Calls) (cos cis : CEs) : TGs := fun vs σ H Q => ∃ p F env M ds r, RM K p F M H ∧ RE K p F env σ ∧ Rels K p F vs ds ∧ setDsS cl cos cis ds env M = some r ∧ EndR K ca W p F H { nx := Q, rt := fun _ _ => False } r
theorem sd_pgs (hu : X.A.units + 1 < cLine) {es : List Expr} {cos cis : CEs} (h : SD X ca W cl es cos cis) : PGs X es (tDs X.K ca W cl cos cis) := by
  induction h with
  | nil =>
    refine pgs_imp pgs_nil fun vs σ H Q ⟨p, F, env, M, ds, r, rm, re, rs, e, q⟩ => ?_
    cases ds with
    | nil =>
      cases rs
      cases e
      exact ⟨rfl, q _ _ _ _ (Step.refl ..) rm re⟩
    | cons _ _ => cases e
  | @cons o i pos es co ci cos cis hs ho hi r ih =>
    refine pgs_imp (pgs_cons (pg_sub (pos := pos) ho hi (set_dict hu) (by intro v; cases i <;> first | rfl | (cases hs))) ih (by rfl)) fun vs σ H Q ⟨p, F, env, M, ds, r, rm, re, rs, e, q⟩ => ?_
    cases ds with
    | nil => cases e
    | cons d ds =>
      cases rs with
      | @cons v _ vs _ r1 rr =>
        have e : (ev cl co env M).to env (fun o M => (ev cl ci env M).to env fun i M => match eSetD M o i d with
          | some M => setDsS cl cos cis ds env M
          | none => none) = some r := e
        refine ⟨v, vs, rfl, p, F, env, M, rm, re, (At.to_ (rel := Rel X.K) re e q).imp fun x H1 ⟨p1, F1, M1, dx, s1, rm1, rx, r', e1, h1⟩ => ?_⟩
        have re1 := re.mono s1.toLe
        refine ⟨p1, F1, env, M1, rm1, re1, (At.to_ (rel := Rel X.K) re1 e1 h1).imp fun y H2 ⟨p2, F2, M2, dy, s2, rm2, ry, r'', e2, h2⟩ => ?_⟩
        have re2 := re1.mono s2.toLe
        have l2 := s1.toLe.trans s2.toLe
        split at e2
        · rename_i M3 e3
          obtain ⟨a, H', q1, q2, q3, q4⟩ := setD_of rm2 (rx.mono s2.toLe) ry (r1.mono l2) e3
          exact ⟨a, H', q1, q2, p2, F2, env, M3, ds, r'', q4, re2.mono q3.toLe, (rr.mono l2).mono q3.toLe, e2, h2.move q3⟩
        · cases e2
def setDsF (cl : Calls) (cos cis : CEs) (f : Rf.Env → Mem → Res D) (env : Rf.Env) (M : Mem) : SRes := (f env M).to env fun x M => match x with
  | .tup vs => if vs.length = cos.len then setDsS cl cos cis vs env M else none
  | _ => none
theorem setDsS_fl {cos cis : CEs} {ds : List D} {env : Rf.Env} {M : Mem} {fl : Fl} {e' : Rf.Env} {M' : Mem} {es : List Expr} (h : SD X ca W cl es cos cis) (e : setDsS cl cos cis ds env M = some (fl, e', M')) : fl = .nx ∨ ∃ x, fl = .exc x := by
  induction h generalizing ds M with
  | nil =>
    cases ds with
    | nil => cases e; exact .inl rfl
    | cons _ _ => cases e
  | @cons o i pos es co ci cos cis hs ho hi r ih =>
    cases ds with
    | nil => cases e
    | cons d ds =>
      have e : (ev cl co env M).to env (fun o M => (ev cl ci env M).to env fun i M => match eSetD M o i d with
        | some M => setDsS cl cos cis ds env M
        | none => none) = some (fl, e', M') := e
      cases z1 : ev cl co env M with
      | none => rw [z1] at e; cases e
      | some r1 =>
        rw [z1] at e
        cases r1 with
        | er x M1 => cases e; exact .inr ⟨x, rfl⟩
        | ok o M1 =>
          have e : (ev cl ci env M1).to env (fun i M => match eSetD M o i d with
            | some M => setDsS cl cos cis ds env M
            | none => none) = some (fl, e', M') := e
          cases z2 : ev cl ci env M1 with
          | none => rw [z2] at e; cases e
          | some r2 =>
            rw [z2] at e
            cases r2 with
            | er x M1 => cases e; exact .inr ⟨x, rfl⟩
            | ok i M2 =>
              have e : (match eSetD M2 o i d with
                | some M => setDsS cl cos cis ds env M
                | none => none) = some (fl, e', M') := e
              split at e
              · exact ih e
              · cases e
theorem sd_len {es : List Expr} {cos cis : CEs} (h : SD X ca W cl es cos cis) : cos.len = es.length := by
  induction h with
  | nil => rfl
  | cons hs ho hi r ih => show _ + 1 = _ + 1; rw [ih]
theorem s_setDs {es : List Expr} {cos cis : CEs} {e : Expr} {k : Nat} {p1 pos : Pos} {f : Rf.Env → Mem → Res D} (hu : X.A.units + 1 < cLine) (hc : X.calm = true) (h : SD X ca W cl es cos cis) (h0 : es ≠ []) (hs : isCompE e = false) (he : PE X e (tE X.K ca W f)) :
    PS X (.Assign [.Tuple es k p1] e pos) (tS X.K ca W (setDsF cl cos cis f)) := by
  have hn : ∀ es : List Expr, (∃ cos cis, SD X ca W cl es cos cis) → (assignEach es X.env).length = es.length ∧ (assignEach es X.env).findIdx? (·.1) = none ∧ (es ≠ [] → (es.any fun e => noLoc X.env.scope e) = true) := by
    intro es ⟨cos, cis, h⟩
    induction h with
    | nil => exact ⟨rfl, rfl, fun h => absurd rfl h⟩
    | @cons o i pos es co ci cos cis hs ho hi r ih =>
      rw [each_cons (X := X) rfl]
      refine ⟨by rw [List.length_cons, List.length_cons, ih.1], ?_, fun _ => rfl⟩
      rw [List.findIdx?_cons]
      simp [ih.2.1]
  obtain ⟨n1, n2, n3⟩ := hn es ⟨_, _, h⟩
  have hw : swappedStores [.Tuple es k p1] e X.env = pure none := by
    cases q : isTupX e with
    | false => exact sw_noTup q
    | true =>
      cases e <;> first | (cases q; done) | skip
      exact sw_some (n3 h0)
  refine ps_imp (ps_asg he (pg_tup (pos := p1) (k := k) hc (sd_pgs hu h) n1 n2) (by unfold swapsWithSole; exact noswap hs) hw (by rw [each_cons (X := X) rfl]; rfl)) fun Z σ H ⟨p, F, env, M, r, rm, re, z, hr⟩ => ?_
  refine ⟨p, F, env, M, rm, re, (At.to_ (rel := Rel X.K) re z hr).imp fun x H1 ⟨p1, F1, M1, d, s1, rm1, r1, r', e1, h1⟩ => ?_⟩
  cases r1 with
  | @tup ad vs ds ht rs =>
    have e1 : (if ds.length = cos.len then setDsS cl cos cis ds env M1 else none) = some r' := e1
    split at e1
    · rename_i hl
      refine ⟨ad, vs, rfl, ht.sq rm1, by rw [rs.length, hl, sd_len h], p1, F1, env, M1, ds, r', rm1, re.mono s1.toLe, rs, e1, ?_⟩
      obtain ⟨fl, e', M'⟩ := r'
      rcases setDsS_fl h e1 with rfl | ⟨x, rfl⟩
      · exact h1
      · exact h1
    · cases e1
  | _ => cases e1
end
end Rf
end T_RfSetDs
section T_RfDic
set_option Elab.async false
set_option linter.all false
set_option maxRecDepth 100000
set_option maxHeartbeats 1000000
/-! Rf: dicts that are data: an empty one, dict(pairs), str() -/
namespace Rf
open PySem PySem.Spec PyProof.Rows L2
section
variable {K : PySem.W.Frag} {p : Ph} {F H : Hp} {M : Mem}
theorem new_dic {q : Addr} {ks : List Key} {vs : List V} {ds : List D} {Q : VK} (rm : RM K p F M H) (hq : H q = none) (hl : ks.length = vs.length) (r : Rels K p F vs ds)
    (k : ∀ p' F' H' v, Step p F H p' F' H' → RM K p' F' M H' → Rel K p' F' v (.dic ks ds) → Q v H') : Q (.ref q) (upd H q (.dK (ks.zip vs))) :=
  k p (upd F q (.dK (ks.zip vs))) _ _ (step_new rm hq) (rm_new rm hq) (.dic (.inl upd_same) hl (r.mono (le_new (rm.free hq))))
theorem pairs_rel : ∀ {ds : List D} {vs : List V} {l : List (Key × D)}, RM K p F M H → Rels K p F vs ds → pairsOf ds = some l →
    ∃ (ps : List Addr) (ws : List V), vs = ps.map V.ref ∧ Paired (fun a (kv : Key × V) => SqT K H a [kV kv.1, kv.2]) ps ((l.map (·.1)).zip ws) ∧ Rels K p F ws (l.map (·.2))
  | [], vs, l, rm, r, h => by
    cases r
    cases h
    exact ⟨[], [], rfl, .nil, .nil⟩
  | d :: ds, vs, l, rm, r, h => by
    cases r with
    | cons r1 r2 =>
      unfold pairsOf at h
      split at h
      · rename_i e
        cases e
      · rename_i k v r' e
        cases e
        split at h
        · rename_i k' l' hk hl
          cases h
          obtain ⟨ps, ws, h1, h2, h3⟩ := pairs_rel rm r2 hl
          cases r1 with
          | tup ht rt =>
            rename_i a xs
            cases rt with
            | cons ra rt =>
              cases rt with
              | cons rb rt =>
                cases rt
                rename_i va vb
                have hkv : va = kV k' := by
                  cases ra <;> first | (cases hk; done) | (cases hk; rfl)
                subst hkv
                exact ⟨a :: ps, vb :: ws, by rw [h1]; rfl, .cons (ht.sq rm) h2, .cons rb h3⟩
        · cases h
      · cases h
end
section
variable {X : Cx} {ca : Nat → Addr} {W : WX} {pos : Pos}
theorem cr_strOfD : CallR X (.type "str") (rA X.K fun _ => bStr) := by
  intro pins s σ H xs us Q I r h
  obtain ⟨p, F, M, ds, d, rm, rs, he, q⟩ := h
  have he : bStr ds = some d := he
  unfold bStr at he
  split at he
  · cases he
    obtain ⟨v, rfl, h⟩ := one_of rs
    cases h
    exact SkE.call_str_str pins s σ H _ us Q I r ⟨_, rfl, q _ _ _ _ (Step.refl ..) rm (.str _)⟩
  · split at he
    · rename_i hl
      cases he
      obtain ⟨v, rfl, h⟩ := one_of rs
      cases h
      exact call_str_int pins s σ H _ us Q I r ⟨_, rfl, hl, q _ _ _ _ (Step.refl ..) rm (.str _)⟩
    · cases he
  · cases he
theorem zip_fst_snd : ∀ l : List (Key × D), (l.map (·.1)).zip (l.map (·.2)) = l
  | [] => rfl
  | x :: l => by rw [List.map_cons, List.map_cons, List.zip_cons_cons, zip_fst_snd l]
theorem cr_dictD (hc : X.calm = true) : CallR X (.type "dict") (rA X.K fun _ => bDict) := by
  intro pins s σ H xs us Q I r h
  obtain ⟨p, F, M, ds, d, rm, rs, he, q⟩ := h
  have he : bDict ds = some d := he
  unfold bDict at he
  split at he
  · obtain ⟨v, rfl, h⟩ := one_of rs
    obtain ⟨l, e1, rfl⟩ := map_some he
    cases h with
    | lst h s1 =>
      obtain ⟨ps, ws, h1, h2, h3⟩ := pairs_rel rm s1 e1
      subst h1
      refine call_dictP hc pins s σ H _ us Q I r ⟨_, ps, _, rfl, .inl (.inl (rm.fro _ _ h)), h2, fun z hz => ?_⟩
      have hlen : (l.map (·.1)).length = ws.length := by rw [h3.length, List.length_map, List.length_map]
      obtain ⟨ys, m1, m2, m3⟩ := merge_zip ((l.map (·.1)).zip ws) [] [] [] rfl
      obtain ⟨f1, f2⟩ := fold_rel (l.map (·.1)) ws (l.map (·.2)) [] [] [] h3 .nil
      rw [zip_fst_snd] at f1 f2
      have m1 : mergeK [] ((l.map (·.1)).zip ws) = _ := m1
      rw [m1, f1]
      refine new_dic rm hz (by rw [← f1]; exact m3) ?_ q
      rw [m2]; exact f2
  · cases he
theorem e_dic0 : PE X (.Dict [] [] pos) (tE X.K ca W fun env M => ok (.dic [] []) M) :=
  pe_imp pe_dnewK fun σ H Q ⟨p, F, env, M, rm, re, q⟩ z hz => new_dic (ks := []) (vs := []) (ds := []) rm hz rfl .nil q.new
end
end Rf
end T_RfDic
section T_RfKeys
set_option Elab.async false
set_option linter.all false
set_option maxRecDepth 100000
set_option maxHeartbeats 1000000
/-! Rf: comprehensions over a dict's keys (the dict is locked the while), dict comprehensions -/
namespace Rf
open PySem PySem.Spec PyProof.Rows L2
def keyD : Key → D
  | .inl i => .int i
  | .inr s => .str s
def keysF (i : Nat) (env : Rf.Env) (M : Mem) : Res (List D) := match env[i]? with
  | some (some (.dic ks _)) => ok (ks.map keyD) M
  | _ => none
section
variable {K : PySem.W.Frag} {p p1 p2 p' : Ph} {F F1 F2 F' H H1 H2 H' : Hp} {M M' : Mem} {d : Addr} {od : Obj} {kvs : List (Key × V)}
theorem rel_key (k : Key) : Rel K p F (kV k) (keyD k) := by
  cases k with
  | inl i => exact .int i
  | inr s => exact .str s
/-- the walk of known items, step by step -/
structure WkS (K : PySem.W.Frag) (p : Ph) (F H : Hp) (J : It) (ds : List D) : Prop where
  go : ∀ p' F' H' M' i x, Step p F H p' F' H' → RM K p' F' M' H' → ds[i]? = some x → J.go i H' ∧ ∀ v H2, J.yld i H' v H2 → ∃ F2, Step p' F' H' p' F2 H2 ∧ RM K p' F2 M' H2 ∧ Rel K p' F2 v x
  stop : ∀ p' F' H' M', Step p F H p' F' H' → RM K p' F' M' H' → J.stop ds.length H'
theorem Wk.s {J : It} {ds : List D} (w : Wk K p F J ds) : WkS K p F H J ds :=
  ⟨fun p' F' H' M' i x s => w.go p' F' H' M' i x s.toLe, fun p' F' H' M' s => w.stop p' F' H' M' s.toLe⟩
theorem wks_keys {ks : List Key} {xs : List V} (hl : ks.length = xs.length) (h : F d = some (.frz od (.dK (ks.zip xs)))) : WkS K p F H (Itk d od (ks.zip xs)) (ks.map keyD) := by
  have hz : (ks.zip xs).length = ks.length := by rw [List.length_zip, hl, Nat.min_self]
  refine ⟨fun p' F' H' M' i x s rm e => ?_, fun p' F' H' M' s rm => ?_⟩
  · rw [List.getElem?_map] at e
    have hi : i < ks.length := by
      by_cases hi : i < ks.length
      · exact hi
      · rw [List.getElem?_eq_none (by omega)] at e; cases e
    rw [List.getElem?_eq_getElem hi] at e
    have e := (Option.some.inj e).symm
    subst e
    refine ⟨⟨rm.fro _ _ (s.fk _ _ _ h), by omega⟩, fun v H2 ⟨e1, k, w, e2, e3⟩ => ?_⟩
    subst e1 e3
    have : k = ks[i] := by
      rw [List.getElem?_eq_getElem (by omega), List.getElem_zip] at e2
      have := Option.some.inj e2
      exact (congrArg Prod.fst this).symm
    subst this
    exact ⟨F', Step.refl .., rm, rel_key _⟩
  · exact ⟨rm.fro _ _ (s.fk _ _ _ h), by rw [hz, List.length_map]; exact Nat.le_refl _⟩
/-! ### the lock -/
theorem le_lock (h : F d = some (.dK kvs)) : Le p F p (upd F d (.frz od (.dK kvs))) where
  ph := fun _ _ h => h
  lst := fun a xs e => by rw [upd_ne (fun z => by rw [z, h] at e; cases e)]; exact e
  tup := fun a xs e => by rw [upd_ne (fun z => by rw [z, h] at e; cases e)]; exact e
  dk := fun a k e => by
    by_cases ha : a = d
    · subst ha
      rcases e with e | ⟨u, e⟩
      · rw [h] at e; cases e; exact .inr ⟨od, upd_same⟩
      · rw [h] at e; cases e
    · rcases e with e | ⟨u, e⟩
      · exact .inl (by rw [upd_ne ha]; exact e)
      · exact .inr ⟨u, by rw [upd_ne ha]; exact e⟩
  fz := fun a u xs e => by rw [upd_ne (fun z => by rw [z, h] at e; cases e)]; exact e
  et := fun a u e => by rw [upd_ne (fun z => by rw [z, h] at e; cases e)]; exact e
  xd := fun a u e => by rw [upd_ne (fun z => by rw [z, h] at e; cases e)]; exact e
theorem rm_lock (r : RM K p F M H) (h : F d = some (.dK kvs)) : RM K p (upd F d (.frz od (.dK kvs))) M (upd H d (.frz od (.dK kvs))) where
  fro := fun a u e => by
    by_cases ha : a = d
    · subst ha; rw [upd_same] at e ⊢; exact e
    · rw [upd_ne ha] at e ⊢; exact r.fro a u e
  dom := r.dom
  inj := r.inj
  liv := fun n a e => by
    by_cases ha : a = d
    · subst ha; rw [upd_same]; simp
    · rw [upd_ne ha]; exact r.liv n a e
  cell := fun n a c e1 e2 hc => by
    obtain ⟨h1, h2⟩ := r.cell n a c e1 e2 hc
    have ha : a ≠ d := fun z => by rw [z, h] at h1; cases h1
    exact ⟨by rw [upd_ne ha]; exact h1, h2.keep (le_lock h) (upd_ne ha)⟩
/-- unlocked: what could be read may be read -/
theorem le_unlock (h : F d = some (.frz od (.dK kvs))) : Le p F p (upd F d (.dK kvs)) where
  ph := fun _ _ h => h
  lst := fun a xs e => by rw [upd_ne (fun z => by rw [z, h] at e; cases e)]; exact e
  tup := fun a xs e => by rw [upd_ne (fun z => by rw [z, h] at e; cases e)]; exact e
  dk := fun a k e => by
    by_cases ha : a = d
    · subst ha
      rcases e with e | ⟨u, e⟩
      · rw [h] at e; cases e
      · rw [h] at e; cases e; exact .inl upd_same
    · rcases e with e | ⟨u, e⟩
      · exact .inl (by rw [upd_ne ha]; exact e)
      · exact .inr ⟨u, by rw [upd_ne ha]; exact e⟩
  fz := fun a u xs e => by rw [upd_ne (fun z => by rw [z, h] at e; cases e)]; exact e
  et := fun a u e => by rw [upd_ne (fun z => by rw [z, h] at e; cases e)]; exact e
  xd := fun a u e => by rw [upd_ne (fun z => by rw [z, h] at e; cases e)]; exact e
theorem rm_unlock (r : RM K p F M H) (h : F d = some (.frz od (.dK kvs))) : RM K p (upd F d (.dK kvs)) M (upd H d (.dK kvs)) where
  fro := fun a u e => by
    by_cases ha : a = d
    · subst ha; rw [upd_same] at e ⊢; exact e
    · rw [upd_ne ha] at e ⊢; exact r.fro a u e
  dom := r.dom
  inj := r.inj
  liv := fun n a e => by
    by_cases ha : a = d
    · subst ha; rw [upd_same]; simp
    · rw [upd_ne ha]; exact r.liv n a e
  cell := fun n a c e1 e2 hc => by
    obtain ⟨h1, h2⟩ := r.cell n a c e1 e2 hc
    have ha : a ≠ d := fun z => by rw [z, h] at h1; cases h1
    exact ⟨by rw [upd_ne ha]; exact h1, h2.keep (le_unlock h) (upd_ne ha)⟩
theorem step_unlock (hF : F d = some (.dK kvs)) (hH : H d = some (.dK kvs)) (s : Step p (upd F d (.frz od (.dK kvs))) (upd H d (.frz od (.dK kvs))) p' F' H') : Step p F H p' (upd F' d (.dK kvs)) (upd H' d (.dK kvs)) := by
  have hF' : F' d = some (.frz od (.dK kvs)) := s.fk _ _ _ upd_same
  have ne : ∀ {a : Addr} {o : HO}, F a = some o → (∀ k, o ≠ .dK k) → a ≠ d := fun {a o} e ho z => by
    rw [z, hF] at e
    cases e
    exact ho _ rfl
  refine ⟨⟨s.ph, ?_, ?_, ?_, ?_, ?_, ?_⟩, ?_, ?_, ?_, ?_, ?_⟩
  · intro a xs e
    have ha := ne e (fun k z => by cases z)
    rw [upd_ne ha]
    exact s.lst a xs (by rw [upd_ne ha]; exact e)
  · intro a xs e
    have ha := ne e (fun k z => by cases z)
    rw [upd_ne ha]
    exact s.tup a xs (by rw [upd_ne ha]; exact e)
  · intro a k e
    by_cases ha : a = d
    · subst ha
      rcases e with e | ⟨u, e⟩
      · rw [hF] at e; cases e; exact .inl upd_same
      · rw [hF] at e; cases e
    · have q := s.dk a k (by
        rcases e with e | ⟨u, e⟩
        · exact .inl (by rw [upd_ne ha]; exact e)
        · exact .inr ⟨u, by rw [upd_ne ha]; exact e⟩)
      rcases q with q | ⟨u, q⟩
      · exact .inl (by rw [upd_ne ha]; exact q)
      · exact .inr ⟨u, by rw [upd_ne ha]; exact q⟩
  · intro a u xs e
    have ha := ne e (fun k z => by cases z)
    rw [upd_ne ha]
    exact s.fz a u xs (by rw [upd_ne ha]; exact e)
  · intro a u e
    have ha := ne e (fun k z => by cases z)
    rw [upd_ne ha]
    exact s.et a u (by rw [upd_ne ha]; exact e)
  · intro a u e
    have ha := ne e (fun k z => by cases z)
    rw [upd_ne ha]
    exact s.xd a u (by rw [upd_ne ha]; exact e)
  · intro a o e hn
    by_cases ha : a = d
    · subst ha; rw [hH] at e; cases e; exact upd_same
    · rw [upd_ne ha]
      exact s.keep a o (by rw [upd_ne ha]; exact e) hn
  · intro a e
    by_cases ha : a = d
    · subst ha; rw [upd_same] at e; cases e
    · rw [upd_ne ha] at e
      have q := s.there a e
      rw [upd_ne ha] at q
      exact q
  · intro n a e
    rcases s.new n a e with q | q
    · exact .inl q
    · by_cases ha : a = d
      · subst ha; rw [upd_same] at q; cases q
      · rw [upd_ne ha] at q; exact .inr q
  · intro a o e
    by_cases ha : a = d
    · subst ha; rw [upd_same] at e; cases e; exact .inl hF
    · rw [upd_ne ha] at e
      rcases s.fnew a o e with q | q | q
      · rw [upd_ne ha] at q; exact .inl q
      · rw [upd_ne ha] at q; exact .inr (.inl q)
      · exact .inr (.inr q)
  · intro a o k e
    have ha := ne e (fun k z => by cases z)
    rw [upd_ne ha]
    exact s.fk a o k (by rw [upd_ne ha]; exact e)
end
section
variable {K : PySem.W.Frag} {ca : Nat → Addr} {W : WX} {fc fk fe : Rf.Env → Mem → Res D} {tg : Tg}
/-- one turn of a dict's comprehension -/
def gDc (fc fk fe : Rf.Env → Mem → Res D) (tg : Tg) (env : Rf.Env) : D → Mem → Res (Option (D × D)) := fun x M => match asT tg x env with
  | some env' => (asB (fc env' M)).bind fun t M => if t then (fk env' M).bind fun y M => (fe env' M).bind fun z M => ok (some (y, z)) M else ok none M
  | none => none
theorem gDc_inv {env : Rf.Env} {x : D} {M M' : Mem} {o : Option (D × D)} (h : gDc fc fk fe tg env x M = some (.ok o M')) :
    ∃ env' t M1, asT tg x env = some env' ∧ asB (fc env' M) = some (.ok t M1) ∧ ((t = false ∧ o = none ∧ M' = M1) ∨ (t = true ∧ ∃ y z M2, o = some (y, z) ∧ fk env' M1 = some (.ok y M2) ∧ fe env' M2 = some (.ok z M'))) := by
  unfold gDc at h
  split at h
  · rename_i env' e
    refine ⟨env', ?_⟩
    cases z : asB (fc env' M) with
    | none => rw [z] at h; cases h
    | some r =>
      rw [z] at h
      cases r with
      | er x M1 => cases h
      | ok t M1 =>
        refine ⟨t, M1, e, rfl, ?_⟩
        cases t with
        | false => cases h; exact .inl ⟨rfl, rfl, rfl⟩
        | true =>
          have h : ((fk env' M1).bind fun y M => (fe env' M).bind fun z M => ok (some (y, z)) M) = some (.ok o M') := h
          cases z2 : fk env' M1 with
          | none => rw [z2] at h; cases h
          | some r =>
            rw [z2] at h
            cases r with
            | er x M2 => cases h
            | ok y M2 =>
              have h : ((fe env' M2).bind fun z M => ok (some (y, z)) M) = some (.ok o M') := h
              cases z3 : fe env' M2 with
              | none => rw [z3] at h; cases h
              | some r =>
                rw [z3] at h
                cases r with
                | er x M3 => cases h
                | ok w M3 => cases h; exact .inr ⟨rfl, y, w, M2, rfl, rfl, z3⟩
  · cases h
theorem putD_le {α : Type} {ks : List Key} {xs : List α} {k : Key} {v : α} : ks.length ≤ (putD ks xs k v).1.length := by
  unfold putD
  split
  · exact Nat.le_refl _
  · show ks.length ≤ (ks ++ [k]).length
    rw [List.length_append]; exact Nat.le_add_right _ _
theorem dcL_len {g : D → Mem → Res (Option (D × D))} : ∀ {xs : List D} {M M' : Mem} {acc r : List Key × List D}, dcL g xs M acc = some (.ok r M') → acc.1.length ≤ r.1.length
  | [], M, M', acc, r, h => by cases h; exact Nat.le_refl _
  | x :: xs, M, M', acc, r, h => by
    unfold dcL at h
    split at h
    · split at h
      · exact Nat.le_trans putD_le (dcL_len h)
      · cases h
    · exact dcL_len h
    · cases h
theorem dcL_er {g : D → Mem → Res (Option (D × D))} : ∀ {xs : List D} {M M' : Mem} {acc : List Key × List D} {x : Exn}, dcL g xs M acc ≠ some (.er x M')
  | [], M, M', acc, x, h => by cases h
  | y :: xs, M, M', acc, x, h => by
    unfold dcL at h
    split at h
    · split at h
      · exact dcL_er h
      · cases h
    · exact dcL_er h
    · cases h
theorem rel_keyOf {p : Ph} {F : Hp} {v : V} {d : D} {k : Key} (r : Rel K p F v d) (h : keyOf d = some k) : v = kV k := by
  cases r <;> first | (cases h; done) | (cases h; rfl)
theorem lc_body {tt : TT} {vs : List Nat} {σ : L2.St} {Q : VK} {J : It} {ds ys : List D} {p1 : Ph} {F1 H1 : Hp} {M1 M' : Mem} {env : Rf.Env} (hv : vs = tg.slots) (htt : ∀ σ H Q, tT K ca WF fc σ H Q → tt σ H Q)
    (rm1 : RM K p1 F1 M1 H1) (re : RE K p1 F1 env σ) (w1 : WkS K p1 F1 H1 J ds) (z : lcL (gEl fc fe tg (wipeE env tg.slots)) ds M1 [] = some (.ok ys M')) (hys : ys.length ≤ sizeLine)
    (q2 : ∀ p' F' H' v, Step p1 F1 H1 p' F' H' → RM K p' F' M' H' → Rel K p' F' v (.lst ys) → Q v H') : tLc (fun _ H R => R J H) (tTg K tg) tt (tE K ca WF fe) vs σ H1 Q := by
  subst hv
  intro L hL
  refine ⟨fun i m H => m = ds.length - i ∧ i ≤ ds.length ∧ ∃ p2 F2 M2 acc accd, Step p1 F1 H1 p2 F2 H ∧ RM K p2 F2 M2 H ∧ H L = some (.lst acc) ∧ F2 L = none ∧ (∀ k, p2 k ≠ some L) ∧ Rels K p2 F2 acc accd ∧ lcL (gEl fc fe tg (wipeE env tg.slots)) (ds.drop i) M2 accd = some (.ok ys M'), ⟨ds.length, by simp, Nat.zero_le _, ?_⟩, ?_⟩
  · have hp : ∀ k, p1 k ≠ some L := fun k e => rm1.liv k L e hL
    exact ⟨p1, F1, M1, [], [], step_out (Step.refl ..) hL, rm_out rm1 (rm1.free hL) hp, upd_same, rm1.free hL, hp, .nil, by rw [List.drop_zero]; exact z⟩
  · rintro i m H ⟨rfl, hi, p2, F2, M2, acc, accd, s2, rm2, hH, hF, hp, rl, zi⟩
    by_cases hlt : i < ds.length
    · refine .inr ?_
      have hx : ds[i]? = some ds[i] := List.getElem?_eq_getElem hlt
      have hd : ds.drop i = ds[i] :: ds.drop (i + 1) := List.drop_eq_getElem_cons hlt
      obtain ⟨g1, g2⟩ := w1.go p2 F2 H M2 i ds[i] s2 rm2 hx
      refine ⟨g1, fun H' => _, fun H' h => ⟨ds.length - (i + 1), by omega, rfl, hlt, h⟩, fun v H' y => ?_⟩
      obtain ⟨F3, s3, rm3, r3⟩ := g2 v H' y
      rw [hd] at zi
      unfold lcL at zi
      have main : ∃ o M4, gEl fc fe tg (wipeE env tg.slots) ds[i] M2 = some (.ok o M4) ∧ lcL (gEl fc fe tg (wipeE env tg.slots)) (ds.drop (i + 1)) M4 (match o with | some y => accd ++ [y] | none => accd) = some (.ok ys M') := by
        split at zi
        · rename_i y M4 e; exact ⟨some y, M4, e, zi⟩
        · rename_i M4 e; exact ⟨none, M4, e, zi⟩
        · cases zi
      obtain ⟨o, M4, e1, e2⟩ := main
      obtain ⟨env', t, M3, a1, a2, a3⟩ := gEl_inv e1
      refine ⟨p2, F3, wipeE env tg.slots, M2, ds[i], env', rm3, ((re.mono s2.toLe).mono s3.toLe).wiped tg.slots, r3, a1, fun σ2 re2 w2 => ?_⟩
      refine ⟨by rw [w2 tg.slots (fun _ h => h), wipe_wipe], htt σ2 H' _ ⟨p2, F3, env', M2, rm3, re2, ?_⟩⟩
      refine ⟨_, a2, fun p4 F4 H4 b s4 rm4 eb => ?_⟩
      have eb : b = t := eb
      subst eb
      rcases a3 with ⟨rfl, rfl, rfl⟩ | ⟨rfl, y, rfl, a4⟩
      · simp only [Bool.false_eq_true, if_false]
        have sA := s3.trans s4
        obtain ⟨k1, k2, k3⟩ := out_keep sA hH hp hF
        exact ⟨p4, F4, _, acc, accd, s2.trans sA, rm4, k1, k3, k2, rl.mono sA.toLe, e2⟩
      · simp only [if_true]
        refine ⟨p4, F4, env', M3, rm4, re2.mono s4.toLe, _, a4, fun p5 F5 H5 v5 s5 rm5 r5 => ?_⟩
        have sA := (s3.trans s4).trans s5
        obtain ⟨k1, k2, k3⟩ := out_keep sA hH hp hF
        have hl := lcL_len e2
        have hl : (accd ++ [y]).length ≤ ys.length := hl
        rw [List.length_append, List.length_singleton] at hl
        have hl2 : acc.length < sizeLine := by rw [rl.length]; omega
        refine ⟨acc, k1, hl2, ?_⟩
        exact ⟨p5, F5, _, acc ++ [v5], accd ++ [y], step_out (s2.trans sA) hL, rm_out rm5 k3 k2, upd_same, k3, k2, (rl.mono sA.toLe).append (.cons r5 .nil), e2⟩
    · have e : i = ds.length := by omega
      subst e
      refine .inl ⟨w1.stop p2 F2 H M2 s2 rm2, ?_⟩
      rw [List.drop_length] at zi
      cases zi
      exact q2 _ _ _ _ (step_fz s2 hL hF) (rm_fz rm2 hF hH hp) (.lst upd_same (rl.mono (le_new hF)))
theorem dc_body {tt : TT} {vs : List Nat} {σ : L2.St} {Q : VK} {J : It} {ds : List D} {r : List Key × List D} {p1 : Ph} {F1 H1 : Hp} {M1 M' : Mem} {env : Rf.Env} (hv : vs = tg.slots) (htt : ∀ σ H Q, tT K ca WF fc σ H Q → tt σ H Q)
    (rm1 : RM K p1 F1 M1 H1) (re : RE K p1 F1 env σ) (w1 : WkS K p1 F1 H1 J ds) (z : dcL (gDc fc fk fe tg (wipeE env tg.slots)) ds M1 ([], []) = some (.ok r M')) (hys : r.1.length < sizeLine) (hlow : D.lows 0 r.2 = true)
    (q2 : ∀ p' F' H' v, Step p1 F1 H1 p' F' H' → RM K p' F' (M' ++ [.dic r.1 r.2]) H' → Rel K p' F' v (.cell M'.length) → Q v H') : tDc (fun _ H R => R J H) (tTg K tg) tt (tE K ca WF fk) (tE K ca WF fe) vs σ H1 Q := by
  subst hv
  intro L hL
  refine ⟨fun i m H => m = ds.length - i ∧ i ≤ ds.length ∧ ∃ p2 F2 M2 ks xs acc, Step p1 F1 H1 p2 F2 H ∧ RM K p2 F2 M2 H ∧ H L = some (.dK (ks.zip xs)) ∧ ks.length = xs.length ∧ F2 L = none ∧ (∀ k, p2 k ≠ some L) ∧ Rels K p2 F2 xs acc ∧ dcL (gDc fc fk fe tg (wipeE env tg.slots)) (ds.drop i) M2 (ks, acc) = some (.ok r M'), ⟨ds.length, by simp, Nat.zero_le _, ?_⟩, ?_⟩
  · have hp : ∀ k, p1 k ≠ some L := fun k e => rm1.liv k L e hL
    exact ⟨p1, F1, M1, [], [], [], step_out (Step.refl ..) hL, rm_out rm1 (rm1.free hL) hp, upd_same, rfl, rm1.free hL, hp, .nil, by rw [List.drop_zero]; exact z⟩
  · rintro i m H ⟨rfl, hi, p2, F2, M2, ks, xs, acc, s2, rm2, hH, hkl, hF, hp, rl, zi⟩
    by_cases hlt : i < ds.length
    · refine .inr ?_
      have hx : ds[i]? = some ds[i] := List.getElem?_eq_getElem hlt
      have hd : ds.drop i = ds[i] :: ds.drop (i + 1) := List.drop_eq_getElem_cons hlt
      obtain ⟨g1, g2⟩ := w1.go p2 F2 H M2 i ds[i] s2 rm2 hx
      refine ⟨g1, fun H' => _, fun H' h => ⟨ds.length - (i + 1), by omega, rfl, hlt, h⟩, fun v H' y => ?_⟩
      obtain ⟨F3, s3, rm3, r3⟩ := g2 v H' y
      rw [hd] at zi
      have hlen := dcL_len zi
      unfold dcL at zi
      have main : ∃ o M4, gDc fc fk fe tg (wipeE env tg.slots) ds[i] M2 = some (.ok o M4) ∧ ((o = none ∧ dcL (gDc fc fk fe tg (wipeE env tg.slots)) (ds.drop (i + 1)) M4 (ks, acc) = some (.ok r M')) ∨ ∃ k k' y, o = some (k, y) ∧ keyOf k = some k' ∧ dcL (gDc fc fk fe tg (wipeE env tg.slots)) (ds.drop (i + 1)) M4 (putD ks acc k' y) = some (.ok r M')) := by
        split at zi
        · rename_i k y M4 e
          split at zi
          · rename_i k' hk'
            exact ⟨some (k, y), M4, e, .inr ⟨k, k', y, rfl, hk', zi⟩⟩
          · cases zi
        · rename_i M4 e; exact ⟨none, M4, e, .inl ⟨rfl, zi⟩⟩
        · cases zi
      obtain ⟨o, M4, e1, e2⟩ := main
      obtain ⟨env', t, M3, a1, a2, a3⟩ := gDc_inv e1
      refine ⟨p2, F3, wipeE env tg.slots, M2, ds[i], env', rm3, ((re.mono s2.toLe).mono s3.toLe).wiped tg.slots, r3, a1, fun σ2 re2 w2 => ?_⟩
      refine ⟨by rw [w2 tg.slots (fun _ h => h), wipe_wipe], htt σ2 H' _ ⟨p2, F3, env', M2, rm3, re2, ?_⟩⟩
      refine ⟨_, a2, fun p4 F4 H4 b s4 rm4 eb => ?_⟩
      have eb : b = t := eb
      subst eb
      rcases a3 with ⟨rfl, rfl, rfl⟩ | ⟨rfl, y, w, M5, rfl, a4, a5⟩
      · simp only [Bool.false_eq_true, if_false]
        have sA := s3.trans s4
        obtain ⟨k1, k2, k3⟩ := out_keep sA hH hp hF
        rcases e2 with ⟨_, e2⟩ | ⟨_, _, _, e, _⟩
        · exact ⟨p4, F4, _, ks, xs, acc, s2.trans sA, rm4, k1, hkl, k3, k2, rl.mono sA.toLe, e2⟩
        · cases e
      · simp only [if_true]
        rcases e2 with ⟨e, _⟩ | ⟨k, k', y', e, hk', e2⟩
        · cases e
        cases e
        refine ⟨p4, F4, env', M3, rm4, re2.mono s4.toLe, _, a4, fun p5 F5 H5 v5 s5 rm5 r5 => ?_⟩
        refine ⟨p5, F5, env', M5, rm5, (re2.mono s4.toLe).mono s5.toLe, _, a5, fun p6 F6 H6 v6 s6 rm6 r6 => ?_⟩
        have sA := ((s3.trans s4).trans s5).trans s6
        obtain ⟨k1, k2, k3⟩ := out_keep sA hH hp hF
        have hkl2 : ks.length < sizeLine := Nat.lt_of_le_of_lt hlen hys
        refine ⟨ks.zip xs, k', rel_keyOf r5 hk', k1, by rw [List.length_zip, hkl, Nat.min_self, ← hkl]; exact hkl2, ?_⟩
        rw [putK_put hkl]
        refine ⟨p6, F6, _, (putD ks xs k' v6).1, (putD ks xs k' v6).2, (putD ks acc k' w).2, step_out (s2.trans sA) hL, rm_out rm6 k3 k2, upd_same, putD_len hkl, k3, k2, (rl.mono sA.toLe).put r6, ?_⟩
        rw [show (putD ks xs k' v6).1 = (putD ks acc k' w).1 from putD_keys]
        exact e2
    · have e : i = ds.length := by omega
      subst e
      refine .inl ⟨w1.stop p2 F2 H M2 s2 rm2, ?_⟩
      rw [List.drop_length] at zi
      cases zi
      refine q2 _ _ _ _ (step_adopt s2 rm2 hL) (rm_adopt rm2 hF hp (by rw [hH]; simp) ⟨xs, hH, hkl, rl.mono (le_cell rm2), hlow⟩) (.cell phNew_same)
end
end Rf
end T_RfKeys
section T_RfKeys2
set_option Elab.async false
set_option linter.all false
set_option maxRecDepth 100000
set_option maxHeartbeats 1000000
/-! Rf: comprehensions over a dict's keys, as values and into a local -/
namespace Rf
open PySem PySem.Spec PyProof.Rows L2
/-- the walk of the keys of the dict in slot i, which is locked -/
def wiK (i : Nat) : TI := fun σ H R => ∃ d o kvs, σ[i]? = some (some (V.ref d)) ∧ H d = some (.frz o (.dK kvs)) ∧ R (Itk d o kvs) H
def dcF (fi : Rf.Env → Mem → Res (List D)) (fc fk fe : Rf.Env → Mem → Res D) (tg : Tg) : Rf.Env → Mem → Res D := fun env M => (fi env M).bind fun xs M => (dcL (gDc fc fk fe tg (wipeE env tg.slots)) xs M ([], [])).bind fun r M => if r.1.length < sizeLine ∧ D.lows 0 r.2 = true then ok (.cell M.length) (M ++ [.dic r.1 r.2]) else none
section
variable {K : PySem.W.Frag} {ca : Nat → Addr} {W : WX} {fc fk fe : Rf.Env → Mem → Res D} {tg : Tg}
theorem lcK_read {i : Nat} {tt : TT} {vs : List Nat} {σ : L2.St} {H : Hp} {Q : VK} (hv : vs = tg.slots) (htt : ∀ σ H Q, tT K ca WF fc σ H Q → tt σ H Q) (h : tE K ca W (lcF (keysF i) fc fe tg) σ H Q) :
    tLockE (tLc (wiK i) (tTg K tg) tt (tE K ca WF fe) vs) σ H Q ∨ tLc (wiK i) (tTg K tg) tt (tE K ca WF fe) vs σ H Q := by
  obtain ⟨p, F, env, M, rm, re, q⟩ := h
  have q : At K ca W σ (Rel K) p F H ((keysF i env M).bind fun xs M => (lcL (gEl fc fe tg (wipeE env tg.slots)) xs M []).bind fun ys M => if ys.length ≤ sizeLine then ok (.lst ys) M else none) Q := q
  unfold keysF at q
  split at q
  · rename_i ks ds0 he
    have q : At K ca W σ (Rel K) p F H ((lcL (gEl fc fe tg (wipeE env tg.slots)) (ks.map keyD) M []).bind fun ys M => if ys.length ≤ sizeLine then ok (.lst ys) M else none) Q := q
    cases z : lcL (gEl fc fe tg (wipeE env tg.slots)) (ks.map keyD) M [] with
    | none => rw [z] at q; obtain ⟨r, e, _⟩ := q; cases e
    | some r =>
      cases r with
      | er x M' => exact absurd z lcL_er
      | ok ys M' =>
        rw [z] at q
        have q : At K ca W σ (Rel K) p F H (if ys.length ≤ sizeLine then ok (.lst ys) M' else none) Q := q
        obtain ⟨hys, q2⟩ := q.cond
        obtain ⟨v, hσ, hr⟩ := re.get i _ he
        cases hr with
        | dic hd hl rels =>
          rename_i a xs
          rcases hd with hd | ⟨o, hd⟩
          · refine .inl ⟨a, .dK (ks.zip xs), rm.fro _ _ hd, trivial, fun od => ⟨a, od, ks.zip xs, hσ, upd_same, ?_⟩⟩
            have b := lc_body (Q := fun v H' => H' a = some (.frz od (.dK (ks.zip xs))) ∧ Q v (upd H' a (.dK (ks.zip xs)))) hv htt (rm_lock (od := od) rm hd) (re.mono (le_lock (od := od) hd)) (wks_keys hl upd_same) z hys fun p' F' H' v s rm' r => by
              have hf := s.fk _ _ _ upd_same
              exact ⟨rm'.fro _ _ hf, q2.new _ _ _ _ (step_unlock hd (rm.fro _ _ hd) s) (rm_unlock rm' hf) (r.mono (le_unlock hf))⟩
            exact b
          · refine .inr ⟨a, o, ks.zip xs, hσ, rm.fro _ _ hd, ?_⟩
            have b := lc_body (Q := Q) hv htt rm re (wks_keys hl hd) z hys q2.new
            exact b
  · obtain ⟨r, e, _⟩ := q; cases e
theorem dcK_read {i : Nat} {tt : TT} {vs : List Nat} {σ : L2.St} {H : Hp} {Q : VK} (hv : vs = tg.slots) (htt : ∀ σ H Q, tT K ca WF fc σ H Q → tt σ H Q) (h : tE K ca W (dcF (keysF i) fc fk fe tg) σ H Q) :
    tLockE (tDc (wiK i) (tTg K tg) tt (tE K ca WF fk) (tE K ca WF fe) vs) σ H Q ∨ tDc (wiK i) (tTg K tg) tt (tE K ca WF fk) (tE K ca WF fe) vs σ H Q := by
  obtain ⟨p, F, env, M, rm, re, q⟩ := h
  have q : At K ca W σ (Rel K) p F H ((keysF i env M).bind fun xs M => (dcL (gDc fc fk fe tg (wipeE env tg.slots)) xs M ([], [])).bind fun r M => if r.1.length < sizeLine ∧ D.lows 0 r.2 = true then ok (.cell M.length) (M ++ [.dic r.1 r.2]) else none) Q := q
  unfold keysF at q
  split at q
  · rename_i ks ds0 he
    have q : At K ca W σ (Rel K) p F H ((dcL (gDc fc fk fe tg (wipeE env tg.slots)) (ks.map keyD) M ([], [])).bind fun r M => if r.1.length < sizeLine ∧ D.lows 0 r.2 = true then ok (.cell M.length) (M ++ [.dic r.1 r.2]) else none) Q := q
    cases z : dcL (gDc fc fk fe tg (wipeE env tg.slots)) (ks.map keyD) M ([], []) with
    | none => rw [z] at q; obtain ⟨r, e, _⟩ := q; cases e
    | some r =>
      cases r with
      | er x M' => exact absurd z dcL_er
      | ok r M' =>
        rw [z] at q
        have q : At K ca W σ (Rel K) p F H (if r.1.length < sizeLine ∧ D.lows 0 r.2 = true then ok (.cell M'.length) (M' ++ [.dic r.1 r.2]) else none) Q := q
        obtain ⟨hys, q2⟩ := q.cond
        obtain ⟨v, hσ, hr⟩ := re.get i _ he
        cases hr with
        | dic hd hl rels =>
          rename_i a xs
          rcases hd with hd | ⟨o, hd⟩
          · refine .inl ⟨a, .dK (ks.zip xs), rm.fro _ _ hd, trivial, fun od => ⟨a, od, ks.zip xs, hσ, upd_same, ?_⟩⟩
            have b := dc_body (Q := fun v H' => H' a = some (.frz od (.dK (ks.zip xs))) ∧ Q v (upd H' a (.dK (ks.zip xs)))) hv htt (rm_lock (od := od) rm hd) (re.mono (le_lock (od := od) hd)) (wks_keys hl upd_same) z hys.1 hys.2 fun p' F' H' v s rm' r => by
              have hf := s.fk _ _ _ upd_same
              exact ⟨rm'.fro _ _ hf, q2.new _ _ _ _ (step_unlock hd (rm.fro _ _ hd) s) (rm_unlock rm' hf) (r.mono (le_unlock hf))⟩
            exact b
          · refine .inr ⟨a, o, ks.zip xs, hσ, rm.fro _ _ hd, ?_⟩
            have b := dc_body (Q := Q) hv htt rm re (wks_keys hl hd) z hys.1 hys.2 q2.new
            exact b
  · obtain ⟨r, e, _⟩ := q; cases e
end
section
variable {X : Cx} {ca : Nat → Addr} {W : WX} {fc fk fe : Rf.Env → Mem → Res D} {tg : Tg} {elt kx vx tgE c : Expr} {scope : Scope} {own : List (Str × Nat)} {pos px : Pos} {i : Nat} {x : Str}
theorem pe_or {e : Expr} {t1 t2 : TE} (h1 : PE X e t1) (h2 : PE X e t2) : PE X e (fun σ H Q => t1 σ H Q ∨ t2 σ H Q) :=
  ⟨fun pins s σ H Q I q => q.elim (h1.run pins s σ H Q I) (h2.run pins s σ H Q I)⟩
theorem ps_or {st : Stmt} {t1 t2 : TS} (h1 : PS X st t1) (h2 : PS X st t2) : PS X st (fun Z σ H => t1 Z σ H ∨ t2 Z σ H) :=
  ⟨fun pins s σ H Z I q => q.elim (h1.run pins s σ H Z I) (h2.run pins s σ H Z I)⟩
theorem pi_keysW (hN : X.N[i]? = some x) (hv : Vis X.env.scope x) (hd : (x == ("__debug__" : Str)) = false) (hcd : (x == ("__classdict__" : Str)) = false) : PI X tgE (.Name x px) (wiK i) :=
  pi_imp (pi_keys (pe_var hN hv hd hcd)) fun σ H R ⟨d, o, kvs, h1, h2, h3⟩ => ⟨.ref d, h1, d, o, rfl, .inl ⟨kvs, h2, h3⟩⟩
theorem e_lcK (hc : X.calm = true) (hNd : X.N.Nodup) (hi : PI X tgE (.Name x px) (wiK i)) (ok : BlkOk X.N X.env.scope scope own) (hv : own.map (·.2) = tg.slots)
    (hg : ∀ (s : Shared) (H : Hp) (C : Addr) (cl : List (Str × Addr)) (fp : List Addr), PG (X.blk s H scope (compEnvC scope cl C X.env) fp) tgE (tTg X.K tg))
    (he : ∀ (s : Shared) (H : Hp) (C : Addr) (cl : List (Str × Addr)) (fp : List Addr), PE (X.blk s H scope (compEnvC scope cl C X.env) fp) elt (tE X.K ca WF fe)) :
    PE X (.ListComp elt [⟨tgE, .Name x px, [], 0⟩] scope pos) (tE X.K ca W (lcF (keysF i) (fun _ M => Rf.ok (.bl true) M) fe tg)) :=
  have h := pe_lc (pos := pos) hc hNd hi ok hg (fun s H C cl fp => pts_nil) he
  pe_imp (pe_or (pe_lock h) h) fun σ H Q q => lcK_read hv (fun _ _ _ h => yes_read h) q
theorem e_lcIfK (hc : X.calm = true) (hNd : X.N.Nodup) (hi : PI X tgE (.Name x px) (wiK i)) (ok : BlkOk X.N X.env.scope scope own) (hv : own.map (·.2) = tg.slots)
    (hg : ∀ (s : Shared) (H : Hp) (C : Addr) (cl : List (Str × Addr)) (fp : List Addr), PG (X.blk s H scope (compEnvC scope cl C X.env) fp) tgE (tTg X.K tg))
    (ht : ∀ (s : Shared) (H : Hp) (C : Addr) (cl : List (Str × Addr)) (fp : List Addr), PT (X.blk s H scope (compEnvC scope cl C X.env) fp) c (tT X.K ca WF fc))
    (he : ∀ (s : Shared) (H : Hp) (C : Addr) (cl : List (Str × Addr)) (fp : List Addr), PE (X.blk s H scope (compEnvC scope cl C X.env) fp) elt (tE X.K ca WF fe)) :
    PE X (.ListComp elt [⟨tgE, .Name x px, [c], 0⟩] scope pos) (tE X.K ca W (lcF (keysF i) fc fe tg)) :=
  have h := pe_lc (pos := pos) hc hNd hi ok hg (fun s H C cl fp => pts_one (ht s H C cl fp)) he
  pe_imp (pe_or (pe_lock h) h) fun σ H Q q => lcK_read hv (fun _ _ _ h => h) q
theorem e_dcIfK (hc : X.calm = true) (hNd : X.N.Nodup) (hi : PI X tgE (.Name x px) (wiK i)) (ok : BlkOk X.N X.env.scope scope own) (hv : own.map (·.2) = tg.slots)
    (hg : ∀ (s : Shared) (H : Hp) (C : Addr) (cl : List (Str × Addr)) (fp : List Addr), PG (X.blk s H scope (compEnvC scope cl C X.env) fp) tgE (tTg X.K tg))
    (ht : ∀ (s : Shared) (H : Hp) (C : Addr) (cl : List (Str × Addr)) (fp : List Addr), PT (X.blk s H scope (compEnvC scope cl C X.env) fp) c (tT X.K ca WF fc))
    (hk : ∀ (s : Shared) (H : Hp) (C : Addr) (cl : List (Str × Addr)) (fp : List Addr), PE (X.blk s H scope (compEnvC scope cl C X.env) fp) kx (tE X.K ca WF fk))
    (he : ∀ (s : Shared) (H : Hp) (C : Addr) (cl : List (Str × Addr)) (fp : List Addr), PE (X.blk s H scope (compEnvC scope cl C X.env) fp) vx (tE X.K ca WF fe)) :
    PE X (.DictComp kx vx [⟨tgE, .Name x px, [c], 0⟩] scope pos) (tE X.K ca W (dcF (keysF i) fc fk fe tg)) :=
  have h := pe_dc (pos := pos) hc hNd hi ok hg (fun s H C cl fp => pts_one (ht s H C cl fp)) hk he
  pe_imp (pe_or (pe_lock h) h) fun σ H Q q => dcK_read hv (fun _ _ _ h => h) q
/-- a dict's comprehension into a local on its own line -/
theorem ps_setDc {j : Nat} {y : Str} {py spos : Pos} {iter : Expr} {ifs : List Expr} {wi : TI} {g : TG} {tt : TT} {tk tv : TE} (hc : X.calm = true) (hNd : X.N.Nodup) (hy : X.N[j]? = some y) (hyl : X.env.scope.names.lookup y = some .local)
    (hsw : swapsWith (.DictComp kx vx [⟨tgE, iter, ifs, 0⟩] scope pos) (some (.Name y py)) spos.line X.env = pure true) (hi : PI X tgE iter wi) (ok : BlkOk X.N X.env.scope scope own)
    (hg : ∀ (s : Shared) (H : Hp) (C : Addr) (cl : List (Str × Addr)) (fp : List Addr), PG (X.blk s H scope (compEnvC scope cl C X.env) fp) tgE g)
    (ht : ∀ (s : Shared) (H : Hp) (C : Addr) (cl : List (Str × Addr)) (fp : List Addr), PTs (X.blk s H scope (compEnvC scope cl C X.env) fp) ifs tt)
    (hk : ∀ (s : Shared) (H : Hp) (C : Addr) (cl : List (Str × Addr)) (fp : List Addr), PE (X.blk s H scope (compEnvC scope cl C X.env) fp) kx tk)
    (he : ∀ (s : Shared) (H : Hp) (C : Addr) (cl : List (Str × Addr)) (fp : List Addr), PE (X.blk s H scope (compEnvC scope cl C X.env) fp) vx tv) (hs : ∀ x, foldedSetIterable iter X.env x = pure x) :
    PS X (.Assign [.Name y py] (.DictComp kx vx [⟨tgE, iter, ifs, 0⟩] scope pos) spos) (tAsg (tDc wi g tt tk tv (own.map (·.2))) (gName j)) := by
  refine ⟨fun pins s σ H Z I h => ?_⟩
  rw [exec_Assign_Name_used _ _ _ _ hsw]
  refine wpAny_bind (wpAny_standAt (wpAny_bind ?_))
  show wpAny _ X.A (do
    let _ ← comprehension (.DictComp kx vx [⟨tgE, iter, ifs, 0⟩] scope pos) scope X.env (firstIterPos [⟨tgE, iter, ifs, 0⟩] pos) newDict false (eval iter X.env) (some (assign (.Name y py) X.env))) _ _ s
  have h : tDc wi g tt tk tv (own.map (·.2)) σ H (fun x H1 => gName j x σ H1 Z.nx) := h
  refine wpAny_bind (thn (dc_core (Qf := fun _ s' => SP X pins Z .next s') hc hNd I hi ok hg ht hk he hs h fun L C s' m H' I' q hn f => ?_) fun _ s' hq => wpAny_pure (wpAny_pure hq))
  show wpAny _ _ (assign (.Name y py) X.env (.ref L)) _ _ _
  refine wpAny_assign_Name (store_ok2 (v := V.ref L) I' hNd hy (.inl hyl) rfl (fun s2 I2 ⟨a, sb, ha⟩ => ?_) (.inr hyl))
  obtain ⟨f0, f1, f2, f3, f4, f5⟩ := f
  have hne : C ≠ a := by
    rcases ha with z | z
    · rw [z]; exact f1
    · intro e; exact f4 y a z e.symm
  refine ⟨m, hn.sameBut sb hne, fun h3 sb3 => ⟨_, H', I2.turned (t' := s2.toks) (fun b o hb e => ?_) f0 f1 f3 f4 f5, q⟩⟩
  exact (sb3.2 b hb).trans e
theorem sw_trueD {gs : List Comprehension} {py : Pos} {y : Str} {l : Nat} {env : PySem.Env} (hk : env.scope.kind = .function) (hy : env.scope.names.lookup y = some .local) (hl : (py.line == pos.line) = true)
    (ha : (scope.names.any fun (n, k) => n == y && (k == .local || k == .cell)) = false) : swapsWith (.DictComp kx vx gs scope pos) (some (.Name y py)) l env = pure true := by
  have hb : env.blockKind = .function := bk_fn hk
  have e : swapsWith (.DictComp kx vx gs scope pos) (some (.Name y py)) l env = pure (env.blockKind == .function && env.kindOf y == some .local && py.line == pos.line && !(scope.names.any fun (n, k) => n == y && (k == .local || k == .cell))) := rfl
  have q : env.kindOf y = some .local := hy
  rw [e, hb, q, hl, ha]
  rfl
/-- what a value's reading gives, stored -/
theorem asgK_read {j : Nat} {f : Rf.Env → Mem → Res D} {Z : Ends} {σ : L2.St} {H : Hp} (h : tS X.K ca W (asgS (.nm j) f) Z σ H) : tE X.K ca W f σ H fun v H1 => Z.nx (σ.set j (some v)) H1 := by
  obtain ⟨p, F, env, M, r, rm, re, z, h⟩ := h
  refine ⟨p, F, env, M, rm, re, (At.to_ (rel := Rel X.K) re z h).imp fun v H1 ⟨p1, F1, M1, d, s1, rm1, r1, r', e1, h1⟩ => ?_⟩
  have e1 : some (Fl.nx, env.set j (some d), M1) = some r' := e1
  cases e1
  exact h1 _ _ _ _ (Step.refl ..) rm1 ((re.mono s1.toLe).set r1)
theorem s_setLcK {j : Nat} {y : Str} {py spos : Pos} (hc : X.calm = true) (hNd : X.N.Nodup) (hy : X.N[j]? = some y) (hyl : X.env.scope.names.lookup y = some .local)
    (hk : X.env.scope.kind = .function) (hl : (py.line == pos.line) = true) (hn : (scope.names.any fun (n, k) => n == y && (k == .local || k == .cell)) = false)
    (hi : PI X tgE (.Name x px) (wiK i)) (ok : BlkOk X.N X.env.scope scope own) (hv : own.map (·.2) = tg.slots)
    (hg : ∀ (s : Shared) (H : Hp) (C : Addr) (cl : List (Str × Addr)) (fp : List Addr), PG (X.blk s H scope (compEnvC scope cl C X.env) fp) tgE (tTg X.K tg))
    (he : ∀ (s : Shared) (H : Hp) (C : Addr) (cl : List (Str × Addr)) (fp : List Addr), PE (X.blk s H scope (compEnvC scope cl C X.env) fp) elt (tE X.K ca WF fe)) :
    PS X (.Assign [.Name y py] (.ListComp elt [⟨tgE, .Name x px, [], 0⟩] scope pos) spos) (tS X.K ca W (asgS (.nm j) (lcF (keysF i) (fun _ M => Rf.ok (.bl true) M) fe tg))) :=
  have h := ps_setLc (spos := spos) hc hNd hy hyl (sw_true hk hyl hl hn) hi ok hg (fun s H C cl fp => pts_nil) he
  ps_imp (ps_or (ps_lock h) h) fun Z σ H q => lcK_read hv (fun _ _ _ h => yes_read h) (asgK_read q)
theorem s_setLcIfK {j : Nat} {y : Str} {py spos : Pos} (hc : X.calm = true) (hNd : X.N.Nodup) (hy : X.N[j]? = some y) (hyl : X.env.scope.names.lookup y = some .local)
    (hk : X.env.scope.kind = .function) (hl : (py.line == pos.line) = true) (hn : (scope.names.any fun (n, k) => n == y && (k == .local || k == .cell)) = false)
    (hi : PI X tgE (.Name x px) (wiK i)) (ok : BlkOk X.N X.env.scope scope own) (hv : own.map (·.2) = tg.slots)
    (hg : ∀ (s : Shared) (H : Hp) (C : Addr) (cl : List (Str × Addr)) (fp : List Addr), PG (X.blk s H scope (compEnvC scope cl C X.env) fp) tgE (tTg X.K tg))
    (ht : ∀ (s : Shared) (H : Hp) (C : Addr) (cl : List (Str × Addr)) (fp : List Addr), PT (X.blk s H scope (compEnvC scope cl C X.env) fp) c (tT X.K ca WF fc))
    (he : ∀ (s : Shared) (H : Hp) (C : Addr) (cl : List (Str × Addr)) (fp : List Addr), PE (X.blk s H scope (compEnvC scope cl C X.env) fp) elt (tE X.K ca WF fe)) :
    PS X (.Assign [.Name y py] (.ListComp elt [⟨tgE, .Name x px, [c], 0⟩] scope pos) spos) (tS X.K ca W (asgS (.nm j) (lcF (keysF i) fc fe tg))) :=
  have h := ps_setLc (spos := spos) hc hNd hy hyl (sw_true hk hyl hl hn) hi ok hg (fun s H C cl fp => pts_one (ht s H C cl fp)) he
  ps_imp (ps_or (ps_lock h) h) fun Z σ H q => lcK_read hv (fun _ _ _ h => h) (asgK_read q)
theorem s_setDcIfK {j : Nat} {y : Str} {py spos : Pos} (hc : X.calm = true) (hNd : X.N.Nodup) (hy : X.N[j]? = some y) (hyl : X.env.scope.names.lookup y = some .local)
    (hk : X.env.scope.kind = .function) (hl : (py.line == pos.line) = true) (hn : (scope.names.any fun (n, k) => n == y && (k == .local || k == .cell)) = false)
    (hi : PI X tgE (.Name x px) (wiK i)) (ok : BlkOk X.N X.env.scope scope own) (hv : own.map (·.2) = tg.slots)
    (hg : ∀ (s : Shared) (H : Hp) (C : Addr) (cl : List (Str × Addr)) (fp : List Addr), PG (X.blk s H scope (compEnvC scope cl C X.env) fp) tgE (tTg X.K tg))
    (ht : ∀ (s : Shared) (H : Hp) (C : Addr) (cl : List (Str × Addr)) (fp : List Addr), PT (X.blk s H scope (compEnvC scope cl C X.env) fp) c (tT X.K ca WF fc))
    (hkx : ∀ (s : Shared) (H : Hp) (C : Addr) (cl : List (Str × Addr)) (fp : List Addr), PE (X.blk s H scope (compEnvC scope cl C X.env) fp) kx (tE X.K ca WF fk))
    (he : ∀ (s : Shared) (H : Hp) (C : Addr) (cl : List (Str × Addr)) (fp : List Addr), PE (X.blk s H scope (compEnvC scope cl C X.env) fp) vx (tE X.K ca WF fe)) :
    PS X (.Assign [.Name y py] (.DictComp kx vx [⟨tgE, .Name x px, [c], 0⟩] scope pos) spos) (tS X.K ca W (asgS (.nm j) (dcF (keysF i) fc fk fe tg))) :=
  have h := ps_setDc (spos := spos) hc hNd hy hyl (sw_trueD hk hyl hl hn) hi ok hg (fun s H C cl fp => pts_one (ht s H C cl fp)) hkx he (by intro _; rfl)
  ps_imp (ps_or (ps_lock h) h) fun Z σ H q => dcK_read hv (fun _ _ _ h => h) (asgK_read q)
end
end Rf
end T_RfKeys2
section T_RfSet
set_option Elab.async false
set_option linter.all false
set_option maxRecDepth 100000
set_option maxHeartbeats 2000000
/-! Rf: sorted(set(texts)) -/
namespace Rf
open PySem PySem.Spec PyProof.Rows L2
def keyT (e : Int × Value) : Str := match e.2 with | .str x _ => x | _ => Str.empty
def GoodT (w : World) (e : Int × Value) : Prop := ∃ x tk, e.2 = Value.str x tk ∧ e.1 = hashStr w x
/-- a set of texts at a: its members l (perhaps twice), at most n of them -/
def TxR (w : World) (h : Heap) (a : Addr) (l : List Str) (n : Nat) : Prop :=
  ∃ o es ep t, h.get? a = some o ∧ o.ExactSet ∧ o.data = .set es ep t ∧ (∀ e ∈ es.toList, GoodT w e) ∧ (es.toList.map keyT).Nodup ∧ (∀ x, x ∈ l ↔ x ∈ es.toList.map keyT) ∧
    es.size < scanBound ∧ t.fits es.size = true ∧ es.size ≤ n ∧ Ris t.place.toList ∧ (w.params.followText "set-order" = true ∨ t.led = true)
section
variable {P : Program} {w : World} {h h' : Heap} {a : Addr} {l : List Str} {n : Nat}
theorem TxR.at (R : TxR w h a l n) (k : ∀ o, h.get? a = some o → h'.get? a = some o) : TxR w h' a l n := by
  obtain ⟨o, es, ep, t, ho, r⟩ := R
  exact ⟨o, es, ep, t, k o ho, r⟩
theorem goodT_elems {es : List (Int × Value)} (g : ∀ e ∈ es, GoodT w e) : ElemsOf (strKind P w) es := fun e he => by
  obtain ⟨k, tk, h1, h2⟩ := g e he
  exact ⟨⟨k, by rw [h1]; exact strKind_is P w k tk, h2⟩, by rw [h1] <;> rfl⟩
theorem goodT_is {e : Int × Value} (g : GoodT w e) (k : Str) : (strKind P w).is k e.2 = true ↔ keyT e = k := by
  obtain ⟨k0, tk, h1, _⟩ := g
  unfold keyT
  rw [h1]
  constructor
  · intro q
    exact (strKind P w).inj _ _ _ (strKind_is P w k0 tk) q
  · rintro rfl
    exact strKind_is P w _ tk
theorem goodT_mem {es : List (Int × Value)} (g : ∀ e ∈ es, GoodT w e) (k : Str) : k ∈ es.map keyT ↔ ∃ e ∈ es, (strKind P w).is k e.2 = true := by
  rw [List.mem_map]
  constructor
  · rintro ⟨e, he, q⟩
    exact ⟨e, he, (goodT_is (g e he) k).2 q⟩
  · rintro ⟨e, he, q⟩
    exact ⟨e, he, (goodT_is (g e he) k).1 q⟩
theorem txR_new {h : Heap} {a : Addr} (ho : h.get? a = some { cls := .type "set", dict := none, data := .set #[] 0 (.fresh 0 0 (!w.params.followText "set-order")) }) : TxR w h a [] 0 :=
  ⟨_, #[], 0, _, ho, ⟨rfl, rfl, rfl⟩, rfl, (fun e he => by simp at he), (by simp), (fun k => by simp), (by decide), (by rfl), Nat.le_refl _, List.Pairwise.nil, by
    show _ ∨ (!w.params.followText "set-order") = true
    cases w.params.followText "set-order"
    · exact .inr rfl
    · exact .inl rfl⟩
end
section
variable {P : Program} {w : World} {A : Around} {E : Value → Shared → Prop} {s : Shared} {a : Addr} {l : List Str} {n : Nat}
theorem txR_tail {g : Bool → Sem Unit} (hg : ∀ (b : Bool) (s₁ : Shared) (Q' : Unit → Shared → Prop), Q' () s₁ → wpAny (model P w) A (g b) Q' E s₁)
    {o : Obj} {es : Array (Int × Value)} {ep : Nat} {t : SetTable} (ho : s.heap.get? a = some o) (hex : o.ExactSet) (hd : o.data = .set es ep t)
    {es1 : Array (Int × Value)} {t2 : SetTable} {l' : List Str} {m : Nat} (g1 : ∀ e ∈ es1.toList, GoodT w e) (nd1 : (es1.toList.map keyT).Nodup) (m1 : ∀ k, k ∈ l' ↔ k ∈ es1.toList.map keyT)
    (hb1 : es1.size < scanBound) (hm : es1.size ≤ m) (hf2 : t2.fits es1.size = true) (hr : Ris t2.place.toList) (hl : w.params.followText "set-order" = true ∨ t2.led = true) {wasDummy : Bool} {R : Option Bool → Shared → Prop}
    (hR : ∀ h', Heap.SameBut a s.heap h' → TxR w h' a l' m → R (some true) { s with heap := h' }) :
    wpAny (model P w) A (do
        storeSet a es1 t2
        if (!wasDummy && t2.tooFull) = true then do
            g (relayAll t2 es1 (SetTable.grown es1.size)).2.2
            storeSet a (relayAll t2 es1 (SetTable.grown es1.size)).1 (relayAll t2 es1 (SetTable.grown es1.size)).2.1
            pure (some true)
          else pure (some true)) R E s := by
  refine wpAny_bind (wpAny_storeSet_of ho hd ?_ (fits_of_scanBound hb1))
  have ho1 := store_at (es' := es1) (t' := t2) ho hd
  have sb1 := Heap.SameBut.update s.heap a (Obj.putSet es1 t2)
  split
  · have pm := relayAll_perm t2 es1 (SetTable.grown es1.size)
    have hf3 := relayAll_fits t2 es1 (SetTable.grown es1.size)
    have hr3 := relayAll_ris t2 es1 (SetTable.grown es1.size)
    have hl3 := relayAll_led t2 es1 (SetTable.grown es1.size)
    generalize relayAll t2 es1 (SetTable.grown es1.size) = Z at pm hf3 hr3 hl3 ⊢
    obtain ⟨es2, t3, gave⟩ := Z
    dsimp only at pm hf3 hr3 hl3 ⊢
    have hsz : es2.size = es1.size := by rw [← Array.length_toList, pm.length_eq, Array.length_toList]
    have hb2 : es2.size < scanBound := by rw [hsz]; exact hb1
    refine wpAny_bind (hg _ _ _ ?_)
    refine wpAny_bind (wpAny_storeSet_of ho1 rfl ?_ (fits_of_scanBound hb2))
    have ho2 := store_at (es' := es2) (t' := t3) ho1 rfl
    refine wpAny_pure (hR _ (sb1.trans (Heap.SameBut.update _ a _)) ?_)
    exact ⟨_, es2, _, t3, ho2, hex, rfl, fun e he => g1 e (pm.mem_iff.mp he), (pm.map keyT).nodup_iff.mpr nd1, fun k => (m1 k).trans (pm.map keyT).mem_iff.symm, hb2, by rw [hsz] at hf3 ⊢; exact hf3, by rw [hsz]; exact hm, hr3,
      hl.imp id fun z => by rw [hl3]; exact z⟩
  · exact wpAny_pure (hR _ sb1 ⟨_, es1, _, t2, ho1, hex, rfl, g1, nd1, m1, hb1, hf2, hm, hr, hl⟩)
theorem txR_add {k : Str} {tk : Tok} {Q : Bool → Shared → Prop} (R : TxR w s.heap a l n) (room : n + 1 < scanBound)
    (hQ : ∀ b h', Heap.SameBut a s.heap h' → TxR w h' a (l ++ [k]) (n + 1) → Q b { s with heap := h' }) :
    wpAny (model P w) A (setAddHashed a (.str k tk) ((strKind P w).hash k)) Q E s := by
  obtain ⟨o, es, ep, t, ho, hex, hd, g, nd, hm, hb, hf, hn, hr, hl⟩ := R
  have hkey : (strKind P w).is k (.str k tk) = true := strKind_is P w k tk
  have hsc : (Value.str k tk).scannable = true := rfl
  have hel : ElemsOf (strKind P w) es.toList := goodT_elems g
  unfold setAddHashed setAddHashedIn
  refine wpAny_holding (wpAny_bind (wpAny_setState_of ho hd hf ?_))
  dsimp only
  rw [byScan_of hsc hb hel]
  simp only [↓reduceIte]
  unfold setAddByScan
  refine wpAny_bind ?_
  refine wpAny_bind (wpAny_rule ?_)
  refine wpAny_bind (wpAny_setScan_of hkey ho hd hf hel ?_)
  cases hfi : List.findIdx? (fun e => (strKind P w).is k e.2) es.toList with
  | some j =>
    dsimp only
    obtain ⟨hj, pj, _⟩ := List.findIdx?_eq_some_iff_getElem.mp hfi
    have hSk : k ∈ es.toList.map keyT := (goodT_mem (P := P) (w := w) g k).2 ⟨es.toList[j], List.getElem_mem hj, pj⟩
    refine wpAny_pure (wpAny_pure ?_)
    exact hQ _ s.heap (Heap.SameBut.refl a s.heap) ⟨o, es, ep, t, ho, hex, hd, g, nd, fun i => by
      rw [List.mem_append, List.mem_singleton, hm i]
      exact ⟨fun z => z.elim id (fun e => e ▸ hSk), .inl⟩, hb, hf, Nat.le_succ_of_le hn, hr, hl⟩
  | none =>
    dsimp only
    have hnk : k ∉ es.toList.map keyT := fun z => by
      obtain ⟨e, he, q⟩ := (goodT_mem (P := P) (w := w) g k).1 z
      have c := List.findIdx?_eq_none_iff.mp hfi e he
      rw [q] at c
      cases c
    have hgw : ∀ (b : Bool) {s₁ : Shared} {Q' : Unit → Shared → Prop}, Q' () s₁ → wpAny (model P w) A (match b with | true => rule "set.scan.the-table-gave-way" | false => pure ()) Q' E s₁ :=
      fun b s₁ Q' q => by cases b <;> first | exact wpAny_pure q | exact wpAny_rule q
    have pm := layNew_perm t es ((strKind P w).hash k) (.str k tk)
    have hf1 := layNew_fits t es ((strKind P w).hash k) (.str k tk)
    have hr1 := layNew_ris t es ((strKind P w).hash k) (.str k tk) hr
    have hl1 := layNew_led t es ((strKind P w).hash k) (.str k tk)
    generalize layNew t es ((strKind P w).hash k) (.str k tk) = Z at pm hf1 hr1 hl1 ⊢
    obtain ⟨es1, t1, wasDummy, gave⟩ := Z
    dsimp only at pm hf1 hr1 hl1 ⊢
    rw [Array.toList_push] at pm
    have pc : es1.toList.Perm (((strKind P w).hash k, Value.str k tk) :: es.toList) := pm.trans (List.perm_append_singleton _ _)
    have pk : (es1.toList.map keyT).Perm (k :: es.toList.map keyT) := pc.map keyT
    have g1 : ∀ e ∈ es1.toList, GoodT w e := fun e he => by
      rcases List.mem_cons.mp (pc.mem_iff.mp he) with z | z
      · rw [z]; exact ⟨k, tk, rfl, rfl⟩
      · exact g e z
    have nd1 : (es1.toList.map keyT).Nodup := pk.nodup_iff.mpr (List.nodup_cons.mpr ⟨hnk, nd⟩)
    have m1 : ∀ i, i ∈ l ++ [k] ↔ i ∈ es1.toList.map keyT := fun i => by
      rw [List.mem_append, List.mem_singleton, hm i, pk.mem_iff, List.mem_cons]
      exact Or.comm
    have hsz : es1.size = es.size + 1 := by rw [← Array.length_toList, pc.length_eq, List.length_cons, Array.length_toList]
    have hb1 : es1.size < scanBound := by rw [hsz]; omega
    have hm1 : es1.size ≤ n + 1 := by rw [hsz]; omega
    have hled : w.params.followText "set-order" = true ∨ t1.led = true := hl.imp id fun z => by rw [hl1]; exact z
    have fin : ∀ h', Heap.SameBut a s.heap h' → TxR w h' a (l ++ [k]) (n + 1) → Q true { s with heap := h' } := hQ true
    refine wpAny_bind (hgw _ ?_)
    split
    · refine wpAny_bind ?_
      rw [hashByValue_scannable 8 hsc]
      refine wpAny_pure ?_
      refine txR_tail ?_ ho hex hd g1 nd1 m1 hb1 hm1 ?_ ?_ ?_ ?_
      · intro b s₁ Q' q; cases b <;> first | exact wpAny_pure q | exact wpAny_rule q
      · first | (split <;> first | exact hf1 | exact SetTable.fits_plain_off hf1) | exact hf1
      · first | (split <;> exact hr1) | exact hr1
      · first | (split <;> exact hled) | exact hled
      · intro h' sb r; dsimp only; exact wpAny_pure (fin h' sb r)
    · refine wpAny_bind (wpAny_pure ?_)
      simp only [↓reduceIte]
      refine txR_tail ?_ ho hex hd g1 nd1 m1 hb1 hm1 hf1 hr1 hled ?_
      · intro b s₁ Q' q; cases b <;> first | exact wpAny_pure q | exact wpAny_rule q
      · intro h' sb r; dsimp only; exact wpAny_pure (fin h' sb r)
theorem set_update_texts {I : Addr} {fp wr : List Addr} {G : Array GenState → Array GenState → Prop} {n : Nat} {Pv : Nat → Value → Prop} {St : Nat → Shared → Prop} {R : Result → Shared → Prop}
    (W : WalksS P w A.in1 I fp wr G n Pv St) (S : Addr) (hSf : S ∉ fp) (ns : List Str) (hn : n = ns.length) (hb : ns.length + 1 < scanBound) (hval : ∀ i v, Pv i v → ∃ k t, ns[i]? = some k ∧ v = .str k t) :
    ∀ (k i : Nat) (s : Shared), n - i = k → i ≤ n → St i s → TxR w s.heap S (ns.take i) i →
      (∀ s', Moved (S :: wr) G s s' → TxR w s'.heap S ns n → R (.ok (.ret .none)) s') →
      codeAny (model P w) A (.builtin "set.update.loop" ⟨[.ref S, .ref I], []⟩) R s := by
  have hSw : S ∉ wr := fun h => hSf (W.sub _ h)
  have hsub : ∀ b ∈ wr, b ∈ S :: wr := fun b hb => List.mem_cons_of_mem _ hb
  intro k
  induction k with
  | zero =>
    intro i s hk' hi hst hS hR
    have hin : i = n := by omega
    subst hin
    refine codeAny_builtin F.entry_set_update_loop ?_
    rw [Around.under_plainId F.plain_set_update_loop _]
    show wpAny _ A.in1 (pyNext (.ref I) >>= _) _ _ s
    refine wpAny_bind (W.done s _ _ hst fun s' hm => ?_)
    show wpAny _ A.in1 (ret Value.none) _ _ s'
    have e : ns.take i = ns := List.take_of_length_le (by omega)
    rw [e] at hS
    exact wpAny_pure (hR s' (hm.mono hsub) (hS.at fun o e => hm.heap S o hSw e))
  | succ k ih =>
    intro i s hk' hi hst hS hR
    have hlt : i < n := by omega
    refine codeAny_builtin F.entry_set_update_loop ?_
    rw [Around.under_plainId F.plain_set_update_loop _]
    show wpAny _ A.in1 (pyNext (.ref I) >>= _) _ _ s
    refine wpAny_bind (W.item i s _ _ hlt hst fun v s' hP hst' hm => ?_)
    obtain ⟨z, t, hz, rfl⟩ := hval i v hP
    have hS' : TxR w s'.heap S (ns.take i) i := hS.at fun o e => hm.heap S o hSw e
    show wpAny _ A.in1 (holding [Value.str z t] (setAdd S (.str z t)) >>= _) _ _ s'
    refine wpAny_bind (wpAny_holding ?_)
    unfold setAdd
    refine wpAny_holding ?_
    refine wpAny_bind ((strKind P w).pyHash (k := z) (strKind_is _ _ _ _) ?_)
    refine txR_add (s := { s' with toks := s'.toks + 1 }) hS' (by omega) fun b h' hsb hS2 => ?_
    have hS3 : TxR w h' S (ns.take (i + 1)) (i + 1) := by
      rw [List.take_add_one, hz]
      exact hS2
    refine wpAny_pure ⟨plainId_quiet F.plain_set_update_loop _, ih (i + 1) _ (by omega) hlt (W.frame _ s' _ _ hst' (Nat.le_succ _) fun b hb o e => ?_) hS3 fun s'' hm'' hS'' => ?_⟩
    · rw [hsb.2 b (fun h : b = S => hSf (by rw [← h]; exact hb))]; exact e
    · refine hR s'' (Moved.trans W.gtrans ((hm.mono hsub).then_heap (Nat.le_succ _) fun b o hb e => ?_) hm'') hS''
      rw [hsb.2 b (fun h : b = S => hb (by rw [h]; exact List.mem_cons_self))]; exact e
theorem strs_at : ∀ {us : List Value} {xs : List Str}, StrsAre us xs → ∀ (i : Nat) (v : Value), us[i]? = some v → ∃ k t, xs[i]? = some k ∧ v = .str k t
  | _, _, .nil, i, v, h => by simp at h
  | _, _, .cons y t r, 0, v, h => by simp at h; exact ⟨y, t, rfl, h.symm⟩
  | _, _, .cons y t r, i + 1, v, h => by
    obtain ⟨k, t', h1, h2⟩ := strs_at r i v (by simpa using h)
    exact ⟨k, t', by simpa using h1, h2⟩
theorem StrsAre.len : ∀ {us : List Value} {xs : List Str}, StrsAre us xs → us.length = xs.length
  | _, _, .nil => rfl
  | _, _, .cons y t r => by rw [List.length_cons, List.length_cons, StrsAre.len r]
set_option maxRecDepth 100000 in
set_option maxHeartbeats 3200000 in
theorem call_set_texts {l : Addr} {items : Array Value} (ns : List Str) {Q : Value → Shared → Prop} (hh : A.handled = none) (hl : s.heap.IsList l items) (hit : StrsAre items.toList ns) (hb : ns.length + 1 < scanBound)
    (h : ∀ (h' : Heap) (tk : Nat), TxR w h' s.heap.objs.size ns ns.length → (∀ b o, s.heap.get? b = some o → h'.get? b = some o) → Q (.ref s.heap.objs.size) { s with heap := h', toks := tk }) :
    wpAny (model P w) A (call (.type "set") [.ref l]) Q E s := by
  have hisz : items.size = ns.length := by
    have q := StrsAre.len hit
    rw [Array.length_toList] at q
    exact q
  obtain ⟨c, tl, hmro⟩ := F.called_set.mro
  have hmade := F.called_set.made
  have hsub := F.called_set.sub
  refine wpAny_call (codeAny_of_tree ?_)
  show wpAny _ _ (callAny (.type "set") _) _ _ _
  refine wpAny_pure ⟨Code.quiet_builtin _ (by decide +kernel), codeAny_builtin F.entry_type_call ?_⟩
  rw [Around.under_plain (weight_type_call_type "set" [.ref l] []) rfl]
  have h1 := F.called_set.notType
  have h2 := F.called_set.canCreate
  have hct := F.typeCall_set_1 (.ref l)
  repeat (any_goals (first | assumption | wp_step))
  refine codeAny_mono (code_set_led1 (.ref l) (E := E) (Q₁ := fun obj s₁ => obj = .ref s.heap.objs.size ∧ s₁ = { s with heap := s.heap.push { cls := .type "set", dict := none, data := .set #[] 0 (.fresh 0 0 (!w.params.followText "set-order")) } }) ⟨rfl, rfl⟩) fun r s₁ hr => ?_
  cases r with
  | error e => exact hr
  | ok fl =>
    cases fl with
    | ret obj =>
      obtain ⟨rfl, rfl⟩ := hr
      have hS : (s.heap.push { cls := .type "set", dict := none, data := .set #[] 0 (.fresh 0 0 (!w.params.followText "set-order")) }).get? s.heap.objs.size = some { cls := .type "set", dict := none, data := .set #[] 0 (.fresh 0 0 (!w.params.followText "set-order")) } := Heap.get?_push_size _ rfl
      have hT : Shared.TypeIs { s with heap := s.heap.push { cls := .type "set", dict := none, data := .set #[] 0 (.fresh 0 0 (!w.params.followText "set-order")) } } (.ref s.heap.objs.size) "set" := ⟨_, hS, rfl⟩
      have hli := F.called_set.init.lookup
      have hbi := F.called_set.init.bind (.ref s.heap.objs.size)
      repeat (any_goals (first | assumption | wp_step))
      refine codeAny_mono (codeAny_call_builtin (R := wants (fun r s₂ => r = .none ∧ ∃ h' tk, s₂ = { s with heap := h', toks := tk } ∧ TxR w h' s.heap.objs.size ns ns.length ∧
          (∀ b o, s.heap.get? b = some o → h'.get? b = some o)) E) F.called_set.init.plain F.entry_set_init (check_set_init_1 hT ?_)) fun r₂ s₂ hr₂ => ?_
      · obtain ⟨ol, hol, hcl, ne, hdl⟩ := id hl
        obtain ⟨ocls, odict, odata, oslots⟩ := ol
        simp only at hcl hdl
        subst hcl; subst hdl
        have hol' : (s.heap.push { cls := .type "set", dict := none, data := .set #[] 0 (.fresh 0 0 (!w.params.followText "set-order")) }).get? l = some { cls := .type "list", dict := odict, data := .seq items ne, slots := oslots } := Heap.get?_push_of_some _ hol
        have hsls := F.sub_list_set
        have hslf := F.sub_list_frozenset
        have hne : (Value.type "list" == Value.type "dict") = false := by decide
        have hl1 : (s.heap.push { cls := .type "set", dict := none, data := .set #[] 0 (.fresh 0 0 (!w.params.followText "set-order")) }).IsList l items := hl.push _
        unfold Builtin.«set.__init__» noKeywords Builtin.Frozenset.updateFrom
        generalize hPI : pyIter = PI
        wp_walk
        subst hPI
        refine wpAny_pyIter_list hl1 ?_
        refine wpAny_bind (wpAny_runValue ?_)
        have hlS : l < s.heap.objs.size := Heap.lt_size hol
        have hh3 : A.in1.in1.in1.handled = none := by simp [hh]
        have hneI : l ≠ (s.heap.push { cls := .type "set", dict := none, data := .set #[] 0 (.fresh 0 0 (!w.params.followText "set-order")) }).objs.size := by
          rw [Heap.size_push]; exact Nat.ne_of_lt (Nat.lt_succ_of_lt hlS)
        have hSf : s.heap.objs.size ∉ [(s.heap.push { cls := .type "set", dict := none, data := .set #[] 0 (.fresh 0 0 (!w.params.followText "set-order")) }).objs.size, l] := by
          rw [Heap.size_push]; simp only [List.mem_cons, List.mem_singleton, List.not_mem_nil, or_false, not_or]
          exact ⟨Nat.ne_of_lt (Nat.lt_succ_self _), Nat.ne_of_gt hlS⟩
        have hval : ∀ (i : Nat) (v : Value), items[i]? = some v → ∃ k t, ns[i]? = some k ∧ v = .str k t := fun i v hv => strs_at hit i v (by rw [Array.getElem?_toList]; exact hv)
        refine set_update_texts ((Walks.list hh3 _ l hneI items).toS) s.heap.objs.size
          hSf ns hisz hb hval (items.size - 0) 0 _ (by omega) (Nat.zero_le _)
          ⟨⟨_, Heap.get?_push_size _ rfl, rfl, rfl⟩, (hl1.push _)⟩ ?hS0 ?hR
        case hS0 =>
          exact txR_new (Heap.get?_push_of_some _ hS)
        case hR =>
          intro s' hm hS'
          obtain ⟨h', g2, d', tk', os'⟩ := s'
          have eg : g2 = s.gens := hm.gens
          have ed : d' = s.drawn := hm.drawn
          have eo : os' = s.os := hm.os
          subst eg; subst ed; subst eo
          show wpAny _ _ _ _ _ _
          refine wpAny_pure ?_
          show wpAny _ _ (ret Value.none) _ _ _
          rw [hisz] at hS'
          refine wpAny_pure ⟨rfl, h', tk', rfl, hS', fun b o e => ?_⟩
          have hb0 : b < s.heap.objs.size := Heap.lt_size e
          have hb1 : b ≠ s.heap.objs.size := Nat.ne_of_lt hb0
          have hb2 : b ≠ (s.heap.push { cls := .type "set", dict := none, data := .set #[] 0 (.fresh 0 0 (!w.params.followText "set-order")) }).objs.size := by
            rw [Heap.size_push]; exact Nat.ne_of_lt (Nat.lt_succ_of_lt hb0)
          exact hm.heap b o (by simp only [List.mem_cons, List.mem_singleton, List.not_mem_nil, or_false, not_or]; exact ⟨hb1, hb2⟩) (Heap.get?_push_of_some _ (Heap.get?_push_of_some _ e))
      · cases r₂ with
        | error e => exact hr₂
        | ok fl₂ =>
          cases fl₂ with
          | ret r =>
            obtain ⟨rfl, h', tk, rfl, hS', hk'⟩ := hr₂
            repeat (any_goals (first | assumption | wp_step))
            exact h _ _ hS' hk'
          | _ => exact hr₂.elim
    | _ => exact hr.elim
end
end Rf
end T_RfSet
section T_RfSet2
set_option Elab.async false
set_option linter.all false
set_option maxRecDepth 100000
set_option maxHeartbeats 2000000
/-! Rf: sorted(set(texts)), the rule -/
namespace Rf
open PySem PySem.Spec PyProof.Rows L2
theorem nodup_dups {α : Type} [BEq α] [LawfulBEq α] : ∀ (n : Nat) (l : List α), l.length ≤ n → l.eraseDups.Nodup
  | _, [], _ => by simp
  | 0, _ :: _, h => by simp at h
  | n + 1, a :: l, h => by
    rw [List.eraseDups_cons]
    refine List.nodup_cons.mpr ⟨fun hm => ?_, nodup_dups n _ (Nat.le_trans (List.length_filter_le _ _) (Nat.le_of_succ_le_succ h))⟩
    rw [List.mem_eraseDups, List.mem_filter] at hm
    simp at hm
def strV (v : Value) : Str := match v with | .str x _ => x | _ => Str.empty
theorem strsAre_of : ∀ {vs : List Value}, (∀ v ∈ vs, ∃ x t, v = Value.str x t) → StrsAre vs (vs.map strV)
  | [], _ => .nil
  | v :: vs, h => by
    obtain ⟨x, t, rfl⟩ := h v List.mem_cons_self
    exact .cons x t (strsAre_of fun u hu => h u (List.mem_cons_of_mem _ hu))
section
variable {P : Program} {w : World} {A : Around} {E : Value → Shared → Prop} {s : Shared} {a : Addr} {l : List Str} {n : Nat}
theorem sorted_texts {Q : Value → Shared → Prop} (R : TxR w s.heap a l n) (hh : A.handled = none) (h64 : n < 64)
    (hQ : ∀ s' p (out : Array Value) (c : Nat) (ys : List Str), (∀ b o, s.heap.get? b = some o → s'.heap.get? b = some o) → s'.gens = s.gens → s'.os = s.os → s.heap.objs.size ≤ p →
      s'.heap.get? p = some (seqObj "list" out c) → StrsAre out.toList ys → sortedS ys = true → ys.Nodup → (∀ k, k ∈ ys ↔ k ∈ l) → ys.length ≤ n → Q (.ref p) s') :
    wpAny (model P w) A (call (.builtin "sorted") [.ref a]) Q E s := by
  obtain ⟨o, es, ep, t, ho, hex, hd, g, nd, hm, hb, hf, hn, hr, hl⟩ := R
  refine Calls.call_function_entry kind_sorted plain_sorted entry_sorted (args_sorted1 _) ?_
  unfold Builtin.«sorted»
  refine wpAny_bind (m := checkCount "sorted" 1 1 _) (wpAny_pure ?_)
  refine wpAny_bind (collect_set (A := A.in1) hh ⟨o, ho, hex.1, hd⟩ hf hb hr hl fun s1 vs k1 hz g1 o1 pm => ?_)
  have hvl : vs.length ≤ n := by rw [pm.length_eq, List.length_map, Array.length_toList]; exact hn
  have hI : StrsAre vs (vs.map strV) := strsAre_of fun v hv => by
    obtain ⟨e, he, q⟩ := List.mem_map.mp (pm.mem_iff.mp hv)
    obtain ⟨k, tk, h1, _⟩ := g e he
    exact ⟨k, tk, by rw [← q]; exact h1⟩
  have pk : (vs.map strV).Perm (es.toList.map keyT) := by
    have q := pm.map strV
    rw [List.map_map] at q
    exact q
  refine wpAny_bind (wpAny_newList ?_ (by rw [sizeLine_eq]; omega))
  have hoL : (s1.heap.push (seqObj "list" vs.toArray 0)).get? s1.heap.objs.size = some (seqObj "list" vs.toArray 0) := Heap.get?_push_size _ rfl
  refine wpAny_bind (wpAny_holding (wpAny_call_entry slot_list_sort ⟨_, hoL, rfl⟩ entry_list_sort
    (list_sort_treeK strKind_oneLt hoL hI.keysOf (fun v₁ v₂ rest e => keyKind_strs (by rw [← e]; exact hI)) (by omega) fun st' hp hs => ⟨_, rfl, ?_⟩) (args_list_sort _)))
  obtain ⟨ys, a1, a2, a3⟩ := sorted_out_str hI hp hs
  generalize hout : (arrOf st').map (·.2) = out at a1 ⊢
  obtain ⟨c, hc⟩ := sortedHeap_at (vs := vs) (out := out) hoL
  have pn : ys.Perm (es.toList.map keyT) := a2.trans pk
  refine wpAny_pure ⟨_, rfl, hQ _ s1.heap.objs.size out c ys (fun b u e => ?_) g1 o1 hz hc a1 a3 (pn.nodup_iff.mpr nd) (fun k => by rw [pn.mem_iff, ← hm k]) ?_⟩
  · have q := k1 b u e
    have hlt := Heap.lt_size q
    show (sortedHeap (s1.heap.push (seqObj "list" vs.toArray 0)) s1.heap.objs.size vs out).get? b = some u
    rw [sortedHeap_old (Nat.ne_of_lt hlt) (by rw [size_push']; exact Nat.lt_succ_of_lt hlt)]
    exact Heap.get?_push_of_some _ q
  · rw [pn.length_eq, List.length_map, Array.length_toList]; exact hn
end
def TxO (w : World) (a : Addr) (l : List Str) (n : Nat) : HO := .ext fun h => TxR w h a l n
section
variable {X : Cx} {ca : Nat → Addr} {W : WX} {e : Expr} {es : List Expr} {f : Rf.Env → Mem → Res D} {fs : Rf.Env → Mem → Res (List D)} {pos : Pos}
theorem txO_new {w : World} {P : Program} {H : Hp} {h : Heap} {a : Addr} {l : List Str} {n : Nat} (R : TxR w h a l n) : ObjOk P w H h a (TxO w a l n) := by
  have ⟨o, _, _, _, ho, _⟩ := R
  exact ⟨R, ⟨o, ho⟩, fun h1 h2 p k => TxR.at p k⟩
def rSetT (K : PySem.W.Frag) (w : World) : List V → Hp → VK → Prop := fun xs H Q => ∃ (a : Addr) (l : List Str), xs = [.ref a] ∧ SqL K H a (l.map V.str) ∧ l.length < 64 ∧ ∀ p, H p = none → Q (.ref p) (upd H p (TxO w p l l.length))
theorem cr_setT (hc : X.calm = true) : CallR X (.type "set") (rSetT X.K X.w) := by
  intro pins s σ H xs us Q I r h
  obtain ⟨a, l, rfl, hs, hl, q⟩ := h
  obtain ⟨its, rv, hit, _⟩ := I.list hs
  rw [Vals.ref1 r]
  refine call_set_texts l (I.ok.hd hc) hit.isList rv.strs (by show l.length + 1 < 4096; omega) fun h' tk R k => ?_
  have hn : H s.heap.objs.size = none := I.hok.fresh (Nat.le_refl _)
  exact ⟨.ref _, upd H s.heap.objs.size (TxO X.w s.heap.objs.size l l.length), I.laid (t' := tk) k (Nat.le_refl _) (txO_new R), rfl, q _ hn⟩
def rSortT (w : World) : List V → Hp → VK → Prop := fun vs H Q => ∃ (a : Addr) (l : List Str) (n : Nat), vs = [V.ref a] ∧ H a = some (TxO w a l n) ∧ n < 64 ∧
  ∀ (ys : List Str) (p : Addr), sortedS ys = true → ys.Nodup → (∀ k, k ∈ ys ↔ k ∈ l) → H p = none → Q (.ref p) (upd H p (.lst (ys.map V.str)))
theorem cr_sortT (hc : X.calm = true) : CallR X (.builtin "sorted") (rSortT X.w) := by
  intro pins s σ H vs us Q I r h
  obtain ⟨a, l, n, rfl, ha, h64, q⟩ := h
  have R : TxR X.w s.heap a l n := (I.hok a _ ha).1
  rw [Vals.ref1 r]
  refine sorted_texts R (I.ok.hd hc) h64 fun s' p out c ys k g o hp hg hi hs hnd hm hl => ?_
  have hlen : (ys.map V.str).length ≤ sizeLine := by rw [List.length_map, sizeLine_eq]; omega
  have hn : H p = none := I.hok.fresh hp
  have J : Inv X pins σ (upd H p (.lst (ys.map V.str))) { s with heap := s'.heap, gens := s'.gens, drawn := s'.drawn, toks := s'.toks } :=
    I.call (ch := []) (Un.laid k hp hn) (I.hok.laid k hp ⟨hlen, out.toList, c, vals_of_strs hi, hg⟩) (by rw [g]; exact I.bare) (fun _ z => nomatch z)
  have e : s' = { s with heap := s'.heap, gens := s'.gens, drawn := s'.drawn, toks := s'.toks } := by
    cases s'
    cases s
    cases o
    rfl
  rw [e]
  exact ⟨.ref p, _, J, rfl, q ys p hs hnd hm hn⟩
/-- sorted(set(e)) -/
theorem e_sortSet {p1 p2 pos2 : Pos} (hc : X.calm = true) (hg : Gl X "sorted") (hm : X.mg "sorted" = none) (hg2 : Gl X "set") (hm2 : X.mg "set" = none) (ha : PE X e (tE X.K ca W f)) (hs : isStar e = false) :
    PE X (.Call (.Name "sorted" p1) [.Call (.Name "set" p2) [e] [] pos2] [] pos) (tE X.K ca W fun env M => ((f env M).bind fun x M => (ok [] M).bind fun xs M => ok (x :: xs) M).bind fun xs M => lift (eBi M .sortSet xs) M) := by
  have hset := pe_callTy (pos := pos2) (p := p2) (cr_setT hc) hg2 hm2 (by decide +kernel) (pa_cons ha pa_nil (star_cons hs)) (by decide) (by decide) (star_cons hs) rfl
  refine pe_imp (pe_callB (pos := pos) (p := p1) (cr_sortT hc) hg hm (by decide +kernel) (pa_cons hset pa_nil rfl) (by decide) (by decide) rfl rfl) fun σ H Q ⟨p, F, env, M, rm, re, q⟩ => ?_
  have q : At X.K ca W σ (Rel X.K) p F H (((f env M).bind fun x M => (ok [] M).bind fun xs M => ok (x :: xs) M).bind fun xs M => lift (eBi M .sortSet xs) M) Q := q
  have q' : At X.K ca W σ (Rel X.K) p F H ((f env M).bind fun x M => lift (bSortSet [x]) M) Q := by
    cases z : f env M with
    | none => rw [z] at q; obtain ⟨r, e, _⟩ := q; cases e
    | some r =>
      rw [z] at q
      cases r <;> exact q
  refine ⟨p, F, env, M, rm, re, q'.bind.imp fun x H1 ⟨p1, F1, M1, d, s1, rm1, r1, q1⟩ => ?_⟩
  obtain ⟨r, e1, q4⟩ := q1.lift_
  have e1 : bSortSet [d] = some r := e1
  cases r1 with
  | @lst a vs ds h1 s2 =>
    have e1 : (match strsOf ds with
      | some l => if l.length < 64 then some (D.lst ((sortS l.eraseDups).map .str)) else none
      | none => none) = some r := e1
    split at e1
    · rename_i l hl
      split at e1
      · rename_i h64
        cases e1
        have e2 := strs_of _ _ _ s2 hl
        subst e2
        refine ⟨a, l, rfl, .inl (.inl (rm1.fro _ _ h1)), h64, fun z hz => ?_⟩
        refine ⟨z, l, l.length, rfl, upd_same, h64, fun ys z2 g1 g2 g3 hz2 => ?_⟩
        have hp : ∀ n, p1 n ≠ some z := fun n e => rm1.liv n z e hz
        have st := step_out (o := TxO X.w z l l.length) (Step.refl p1 F1 H1) hz
        have rm2 := rm_out (o := TxO X.w z l l.length) rm1 (rm1.free hz) hp
        have ey : ys = sortS l.eraseDups := by
          refine sortS_of ?_ g1
          exact (List.perm_ext_iff_of_nodup g2 (nodup_dups _ _ (Nat.le_refl _))).mpr fun k => by rw [g3 k, List.mem_eraseDups]
        subst ey
        exact new_lst rm2 hz2 (Rels.strs _) fun p' F' H' v st2 rm' rl => q4 p' F' H' v (st.trans st2) rm' rl
      · cases e1
    · cases e1
  | _ => cases e1
end
end Rf
end T_RfSet2
section T_RfChk
set_option Elab.async false
set_option linter.all false
set_option maxRecDepth 100000
set_option maxHeartbeats 1000000
/-! Rf: the checker (a program's text against its core) and what it promises: expressions -/
namespace Rf
open PySem PySem.Spec PyProof.Rows L2
/-- a def: its name, its text, its parameters, its slots, its core; binds: how many arguments a call writes, what is added -/
structure CF where
  name : Str
  params : Arguments
  stmts : List Stmt
  scope : Scope
  ps : List Str
  N : List Str
  core : List CS
  binds : List (Nat × List D)
  dfl : List D := []
/-- an error's class that keeps a line: its name, its __init__'s qualified name and text -/
structure LnC where
  name : Str
  qual : Str
  p1 : Pos
  p2 : Pos
  q : PySem.LineX.Ps
structure Gi where
  fns : List CF
  txts : List (Str × Str)
  nums : List (Str × Int)
  tups : List (Str × D)
  excs : List Str
  frees : List Str
  lins : List LnC := []
  exms : List (List Nat) := []
  vals : List Str := []
  kits : List (Str × Str × Bool) := []
  file : Str := ""
/-- the errors' classes -/
def Gi.clsN (g : Gi) : List Str := g.excs ++ g.lins.map LnC.name
def CF.fd (c : CF) : Fd := ⟨c.ps.length, c.N.length, c.core⟩
def Gi.tab (g : Gi) : Tab := fun f => (g.fns[f]?).map CF.fd
def visB (sc : Scope) (x : Str) : Bool := match sc.names.lookup x with
  | some .local => true
  | some .cell => true
  | some .free => true
  | _ => false
theorem vis_of {sc : Scope} {x : Str} (h : visB sc x = true) : Vis sc x := by
  unfold visB at h
  unfold Vis
  split at h <;> simp_all
def glB (sc : Scope) (x : Str) : Bool := decide (sc.names.lookup x = some .globalImplicit)
def plainN (x : Str) : Bool := !(x == ("__debug__" : Str)) && !(x == ("__classdict__" : Str))
def notName (x : Str) : Bool := !decide (x = "__name__")
def ndb (x : Str) : Bool := !(x == ("__debug__" : Str))
/-- a constant -/
def conB (g : Gi) (sc : Scope) (d : D) : Expr → Bool
  | .Constant .none _ _ => match d with | .non => true | _ => false
  | .Constant (.bool b) _ _ => match d with | .bl c => decide (b = c) | _ => false
  | .Constant (.int i) _ _ => match d with | .int j => decide (i = j) | _ => false
  | .Constant (.str s) _ _ => match d with | .str z => decide (s = z) | _ => false
  | .Name x _ => glB sc x && ndb x && (match d with
    | .int i => decide ((x, i) ∈ g.nums)
    | .str s => decide ((x, s) ∈ g.txts)
    | .tup ds => g.tups.any fun p => decide (p.1 = x) && sameD p.2 (.tup ds)
    | _ => false)
  | _ => false
def biStr : Bi → Option Str
  | .abs => some "abs"
  | .all => some "all"
  | .any => some "any"
  | .bool => some "bool"
  | .int => some "int"
  | .len => some "len"
  | .list => some "list"
  | .tuple => some "tuple"
  | .max2 => some "max"
  | .min2 => some "min"
  | .dict => some "dict"
  | .strOf => some "str"
  | .sortStr => some "sorted"
  | _ => none
def locB (sc : Scope) (x : Str) : Bool := match sc.names.lookup x with
  | some .local => true
  | some .cell => true
  | _ => false
mutual
def chkTg (N : List Str) (sc : Scope) : Tg → Expr → Bool
  | .nm i, e => match e with
    | .Name x _ => decide (N[i]? = some x) && locB sc x
    | _ => false
  | .tp ts, e => match e with
    | .Tuple es _ _ => decide (es.length = ts.len) && chkTgs N sc ts es
    | _ => false
def chkTgs (N : List Str) (sc : Scope) : TgL → List Expr → Bool
  | .nil, es => es.isEmpty
  | .cons t ts, es => match es with
    | e :: es => !isStarT e && chkTg N sc t e && chkTgs N sc ts es
    | [] => false
end
def isTupE : Expr → Bool
  | .Tuple _ _ _ => true
  | _ => false
/-- the block's own names and slots -/
def ownOf (N : List Str) (slots : List Nat) : List (Str × Nat) := slots.map fun i => (N.getD i "", i)
/-- the slot whose dict's keys are walked -/
def keysAt : CI → Option Nat
  | .keys i => some i
  | _ => none
def keyName (N : List Str) (sc : Scope) (i : Nat) : Expr → Bool
  | .Name x _ => decide (N[i]? = some x) && (visB sc x && plainN x)
  | _ => false
def isNilC : CEs → Bool
  | .nil => true
  | _ => false
mutual
def chkE (g : Gi) (N : List Str) : CE → Scope → Expr → Bool
  | .var i, sc, e => match e with
    | .Name x _ => decide (N[i]? = some x) && (visB sc x && plainN x)
    | _ => false
  | .con d, sc, e => conB g sc d e
  | .bin op a b, sc, e => match e with
    | .BinOp ea o eb _ => decide (o = pyOp op) && (chkE g N a sc ea && chkE g N b sc eb)
    | _ => false
  | .neg a, sc, e => match e with
    | .UnaryOp .USub ea _ => chkE g N a sc ea
    | _ => false
  | .cmp op a b, sc, e => match e with
    | .Compare ea [o] [eb] _ => decide (o = pyCo op) && (!behindInMarks (pyCo op) eb && (chkE g N a sc ea && chkE g N b sc eb))
    | _ => false
  | .isN a, sc, e => match e with
    | .Compare ea [.Is] [.Constant .none _ _] _ => chkE g N a sc ea
    | _ => false
  | .notN a, sc, e => match e with
    | .Compare ea [.IsNot] [.Constant .none _ _] _ => chkE g N a sc ea
    | _ => false
  | .chain p q a b c, sc, e => match e with
    | .Compare ea [o1, o2] [eb, ec] _ => decide (o1 = pyCo p) && (decide (o2 = pyCo q) && (!lastMarks [pyCo p, pyCo q] [eb, ec] && (chkE g N a sc ea && (chkE g N b sc eb && chkE g N c sc ec))))
    | _ => false
  | .and a b, sc, e => match e with
    | .BoolOp .And (ea :: eb :: rest) pos => chkE g N a sc ea && chkE g N b sc (if rest.isEmpty then eb else .BoolOp .And (eb :: rest) pos)
    | _ => false
  | .or a b, sc, e => match e with
    | .BoolOp .Or (ea :: eb :: rest) pos => chkE g N a sc ea && chkE g N b sc (if rest.isEmpty then eb else .BoolOp .Or (eb :: rest) pos)
    | _ => false
  | .not a, sc, e => match e with
    | .UnaryOp .Not ea _ => chkE g N a sc ea
    | _ => false
  | .notV a, sc, e => match e with
    | .UnaryOp .Not (.Name x p) _ => chkE g N a sc (.Name x p)
    | _ => false
  | .ite c a b, sc, e => match e with
    | .IfExp ec ea eb _ => chkE g N c sc ec && (chkE g N a sc ea && chkE g N b sc eb)
    | _ => false
  | .tup es, sc, e => match e with
    | .Tuple ees _ _ => noStars ees && chkEs g N es sc ees
    | _ => false
  | .lst es, sc, e => match e with
    | .List ees _ => noStars ees && chkEs g N es sc ees
    | _ => false
  | .lstM es, sc, e => match e with
    | .List ees _ => noStars ees && chkEs g N es sc ees
    | _ => false
  | .dicM ks es, sc, e => match e with
    | .Dict kes ees _ => !kes.isEmpty && (decide (kes.length ≤ 15) && chkD g N es ks sc kes ees)
    | _ => false
  | .dic0, sc, e => match e with
    | .Dict [] [] _ => true
    | _ => false
  | .idx a i, sc, e => match e with
    | .Subscript ea ei _ => !isSlice ei && (chkE g N a sc ea && chkE g N i sc ei)
    | _ => false
  | .idxD a i, sc, e => match e with
    | .Subscript ea ei _ => !isSlice ei && (chkE g N a sc ea && chkE g N i sc ei)
    | _ => false
  | .inD k a, sc, e => match e with
    | .Compare ek [.In] [ea] _ => !behindInMarks .In ea && (chkE g N k sc ek && chkE g N a sc ea)
    | _ => false
  | .ninD k a, sc, e => match e with
    | .Compare ek [.NotIn] [ea] _ => !behindInMarks .NotIn ea && (chkE g N k sc ek && chkE g N a sc ea)
    | _ => false
  | .slc a lo hi, sc, e => match e with
    | .Subscript ea (.Slice l h none _) _ => chkE g N a sc ea && (chkO g N lo sc l && chkO g N hi sc h)
    | _ => false
  | .rev a, sc, e => match e with
    | .Subscript ea (.Slice none none (some (.UnaryOp .USub (.Constant (.int 1) _ _) _)) _) _ => chkE g N a sc ea
    | _ => false
  | .call f es more, sc, e => match e with
    | .Call (.Name x _) ees [] _ => glB sc x && (ndb x && (noStars ees && (chkEs g N es sc ees && (match g.fns[f]? with
      | some cf => decide (cf.name = x) && cf.binds.any fun b => decide (b.1 = ees.length) && sameDs b.2 more
      | none => false))))
    | _ => false
  | .bi b es, sc, e => match e with
    | .Call (.Name x _) ees [] _ =>
      if decide (b = .sortSet) then (match ees with
        | [.Call (.Name y _) [ea] [] _] => decide (x = "sorted") && (decide (y = "set") && (glB sc x && (glB sc y && (decide (x ∈ g.frees) && (decide (y ∈ g.frees) && (!isStar ea && chkEs g N es sc [ea]))))))
        | _ => false)
      else !ees.isEmpty && (noStars ees && (glB sc x && (decide (biStr b = some x) && (decide (x ∈ g.frees) && chkEs g N es sc ees))))
    | _ => false
  | .me b a es, sc, e => match e with
    | .Call (.Attribute ea m apos) [] [] cpos => plainRecv ea && ((apos.endLine == cpos.line) && (decide (b = .upper) && (decide (m = "upper") && (isNilC es && chkE g N a sc ea))))
    | .Call (.Attribute ea m apos) [e1] [] cpos => plainRecv ea && ((apos.endLine == cpos.line) && (!isStar e1 && ((decide (b = .count) && decide (m = "count") || (decide (b = .join) && decide (m = "join") || decide (b = .split) && decide (m = "split"))) && (chkE g N a sc ea && chkEs g N es sc [e1]))))
    | .Call (.Attribute ea m apos) [e1, e2] [] cpos => plainRecv ea && ((apos.endLine == cpos.line) && (!isStar e1 && (!isStar e2 && (decide (b = .get2) && (decide (m = "get") && (chkE g N a sc ea && chkEs g N es sc [e1, e2]))))))
    | _ => false
  | .rngL a, sc, e => match e with
    | .Call (.Name x _) [.Call (.Name y _) [ea] [] _] [] _ => decide (x = "list") && (decide (y = "range") && (glB sc x && (glB sc y && (decide (x ∈ g.frees) && (decide (y ∈ g.frees) && (!isStar ea && chkE g N a sc ea))))))
    | _ => false
  | .rngL2 a b, sc, e => match e with
    | .Call (.Name x _) [.Call (.Name y _) [ea, eb] [] _] [] _ => decide (x = "list") && (decide (y = "range") && (glB sc x && (glB sc y && (decide (x ∈ g.frees) && (decide (y ∈ g.frees) && (!isStar ea && (!isStar eb && (chkE g N a sc ea && chkE g N b sc eb))))))))
    | _ => false
  | .isi a t, sc, e => match e with
    | .Call (.Name x _) [ea, .Name y _] [] _ => decide (x = "isinstance") && (decide (y = tyStr t) && (glB sc x && (glB sc y && (decide (x ∈ g.frees) && (decide (y ∈ g.frees) && (!isStar ea && chkE g N a sc ea))))))
    | _ => false
  | .lc el tg it, sc, e => match e with
    | .ListComp ee [⟨tgE, iter, [], 0⟩] scope _ => blkC N sc scope (ownOf N tg.slots) && (chkTg N scope tg tgE && ((match keysAt it with | some i => keyName N sc i iter | none => chkI g N it sc tgE iter) && (!isSetE iter && chkE g N el scope ee)))
    | _ => false
  | .lcIf el tg it c, sc, e => match e with
    | .ListComp ee [⟨tgE, iter, [ec], 0⟩] scope _ => blkC N sc scope (ownOf N tg.slots) && (chkTg N scope tg tgE && ((match keysAt it with | some i => keyName N sc i iter | none => chkI g N it sc tgE iter) && (!isSetE iter && (chkE g N el scope ee && chkE g N c scope ec))))
    | _ => false
  | .dcIfM k el tg it c, sc, e => match e with
    | .DictComp ke ee [⟨tgE, iter, [ec], 0⟩] scope _ => blkC N sc scope (ownOf N tg.slots) && (chkTg N scope tg tgE && ((match keysAt it with | some i => keyName N sc i iter | none => false) && (chkE g N k scope ke && (chkE g N el scope ee && chkE g N c scope ec))))
    | _ => false
  | .fmt a, sc, e => match e with
    | .FormattedValue ea c sp _ => decide (c = -1) && (sp.isNone && chkE g N a sc ea)
    | _ => false
  | .fstr es, sc, e => match e with
    | .JoinedStr ees _ => decide (2 ≤ ees.length) && chkEs g N es sc ees
    | _ => false
  | .addM a b, sc, e => match e with
    | .BinOp ea o eb _ => decide (o = .Add) && (chkE g N a sc ea && chkE g N b sc eb)
    | _ => false
  | .mkE x a, sc, e => match e with
    | .Call (.Name y _) [ea] [] _ => decide (y = x) && (glB sc x && (ndb x && (!isStar ea && (decide (x ∈ g.excs) && chkE g N a sc ea))))
    | _ => false
  | .mkL x a, sc, e => match e with
    | .Call (.Name y _) [ea] [] _ => decide (y = x) && (glB sc x && (ndb x && (!isStar ea && (decide (x ∈ g.lins.map LnC.name) && (decide (("super" : Str) ∈ g.frees) && chkE g N a sc ea)))))
    | _ => false
  | .isE a x t, sc, e => match e with
    | .Call (.Name y _) [ea, .Name z _] [] _ => decide (y = "isinstance") && (decide (z = x) && (glB sc y && (glB sc x && (ndb x && (decide (y ∈ g.frees) && (decide (x ∈ g.clsN) && (t.all (fun p => decide ((p.1, x, p.2) ∈ g.kits) && decide (p.1 ∈ g.vals)) && (!isStar ea && chkE g N a sc ea))))))))
    | _ => false
  | .isB a ys, sc, e => match e with
    | .Call (.Name y _) [ea, .Name z _] [] _ => decide (y = "isinstance") && (decide (z = "ValueError") && (glB sc y && (glB sc z && (decide (y ∈ g.frees) && (decide (z ∈ g.frees) && (ys.all (fun p => decide (p ∈ g.vals)) && (!isStar ea && chkE g N a sc ea)))))))
    | _ => false
  | .lineE a ys, sc, e => match e with
    | .Attribute ea at_ _ => decide (at_ = "line") && (plainRecv ea && (ys.all (fun p => decide (p ∈ g.lins.map LnC.name)) && chkE g N a sc ea))
    | _ => false
def chkD (g : Gi) (N : List Str) : CEs → List Key → Scope → List (Option Expr) → List Expr → Bool
  | .nil, ks, sc, kes, es => ks.isEmpty && (kes.isEmpty && es.isEmpty)
  | .cons a as, ks, sc, kes, es => match ks, kes, es with
    | k :: ks, some ke :: kes, e :: es => keyE k ke && (chkE g N a sc e && chkD g N as ks sc kes es)
    | _, _, _ => false
def chkEs (g : Gi) (N : List Str) : CEs → Scope → List Expr → Bool
  | .nil, sc, es => es.isEmpty
  | .cons a as, sc, es => match es with
    | e :: es => chkE g N a sc e && chkEs g N as sc es
    | [] => false
def chkO (g : Gi) (N : List Str) : CO → Scope → Option Expr → Bool
  | .no, sc, o => o.isNone
  | .at a, sc, o => match o with
    | some e => chkE g N a sc e
    | none => false
def chkI (g : Gi) (N : List Str) : CI → Scope → Expr → Expr → Bool
  | .seq a, sc, tgE, e => chkE g N a sc e
  | .rng a, sc, tgE, e => match e with
    | .Call (.Name x _) [ea] [] _ => decide (x = "range") && (glB sc x && (decide (x ∈ g.frees) && (!isStar ea && chkE g N a sc ea)))
    | _ => false
  | .rng2 a b, sc, tgE, e => match e with
    | .Call (.Name x _) [ea, eb] [] _ => decide (x = "range") && (glB sc x && (decide (x ∈ g.frees) && (!isStar ea && (!isStar eb && (chkE g N a sc ea && chkE g N b sc eb)))))
    | _ => false
  | .enum a, sc, tgE, e => match e with
    | .Call (.Name x _) [ea] [] _ => isTupE tgE && (decide (x = "enumerate") && (glB sc x && (decide (x ∈ g.frees) && (!isStar ea && chkE g N a sc ea))))
    | _ => false
  | .zip a b, sc, tgE, e => match e with
    | .Call (.Name x _) [ea, eb] [] _ => isTupE tgE && (decide (x = "zip") && (glB sc x && (decide (x ∈ g.frees) && (!isStar ea && (!isStar eb && (chkE g N a sc ea && chkE g N b sc eb))))))
    | _ => false
  | .keys i, sc, tgE, e => false
end
end Rf
end T_RfChk
section T_RfSnd
set_option Elab.async false
set_option linter.all false
set_option maxRecDepth 100000
set_option maxHeartbeats 1000000
/-! Rf: what the checker has passed does as its core says: expressions -/
namespace Rf
open PySem PySem.Spec PyProof.Rows L2
def dvV : D → V
  | .bl b => .bl b
  | .int i => .int i
  | .str s => .str s
  | _ => .non
/-- what stands behind the module's top -/
structure Facts (g : Gi) (ca : Nat → Addr) (n : Nat) (P : Program) (w : World) (K : PySem.W.Frag) (mg : Str → Option Value) (base : Heap) : Prop where
  free : ∀ x ∈ g.frees, mg x = none
  txt : ∀ p ∈ g.txts, ∃ u, mg p.1 = some u ∧ RelV (.str p.2) u
  num : ∀ p ∈ g.nums, ∃ u, mg p.1 = some u ∧ RelV (.int p.2) u
  tup : ∀ p ∈ g.tups, ∃ v u, mg p.1 = some u ∧ RelV v u ∧ ∀ ph F, Rel K ph F v p.2
  exc : ∀ k x, g.excs[k]? = some x → mg x = some (.ref (ca k)) ∧ PySem.W.keepIn K (.ref (ca k)) = true ∧ PySem.W.excIn K (ca k) [.type "ValueError", .type "Exception", .type "BaseException", .type "object"] "ValueError.__new__" = true ∧
    PySem.W.subIn K (.ref (ca k)) (.type "BaseException") = some true ∧ PySem.W.typeIn K (.ref (ca k)) = some (.type "type")
  fn : ∀ (f : Nat) (cf : CF), g.fns[f]? = some cf → ∃ (adr : Addr) (fd : FuncData), FnOk P w K mg base (L2.CX P w) n adr fd cf.ps (spF K ca (callN g.tab n) f) ∧ mg cf.name = some (.ref adr) ∧ PySem.W.keepIn K (.ref adr) = true ∧
    FunD K cf.name cf.name cf.params cf.stmts cf.scope (cf.dfl.map dvV) [] adr fd ∧ ∀ b ∈ cf.binds, ∃ dvs ds, Vals dvs ds ∧ Binds K fd cf.ps ds ∧ ∀ p F, Rels K p F dvs b.2
  cls : ∀ k x, g.clsN[k]? = some x → mg x = some (.ref (ca k))
  exm : ∀ k cs, g.exms[k]? = some cs → ExmOk K ca g.clsN.length k cs
  lin : ∀ j x, g.lins[j]? = some x → ∃ fI, PySem.LineX.LineTxt P.main.file K (ca (g.excs.length + j)) fI
  cag : ∀ k x, g.clsN[k]? = some x → ca k = He.ga K x
  vals : ∀ y ∈ g.vals, XvC K (He.ga K y) ∧ PySem.W.kitOne K (.ref (He.ga K y)) (.type "ValueError") = some true
  kits : ∀ p ∈ g.kits, PySem.W.kitOne K (.ref (He.ga K p.1)) (.ref (He.ga K p.2.1)) = some p.2.2
  ptop : g.lins ≠ [] → (P.main.scope.names.lookup ("super" : Str)).isSome = false
structure Good (g : Gi) (ca : Nat → Addr) (n : Nat) (N : List Str) (sc : Scope) (W : WX) (X : Cx) : Prop where
  hN : X.N = N
  nd : N.Nodup
  keep : ∀ x k, k ≠ .free → sc.names.lookup x = some k → X.env.scope.names.lookup x = some k
  fre : ∀ x, sc.names.lookup x = some .free → X.env.scope.names.lookup x = some .free ∨ X.env.scope.names.lookup x = some .cell
  ekind : X.env.scope.kind = .function
  calm : X.calm = true
  room : Room n X.A
  tk : Takes X W
  facts : Facts g ca n X.prog X.w X.K X.mg X.base
  kind : sc.kind = .function
  fnc : ∀ x, sc.names.lookup x = some .cell → X.fn x = true
theorem Good.un {g : Gi} {ca : Nat → Addr} {n : Nat} {N : List Str} {sc : Scope} {W : WX} {X : Cx} (G : Good g ca n N sc W X) : X.A.units + 65 < cLine := by
  have := G.room.un
  omega
theorem Good.un1 {g : Gi} {ca : Nat → Addr} {n : Nat} {N : List Str} {sc : Scope} {W : WX} {X : Cx} (G : Good g ca n N sc W X) : X.A.units + 1 < cLine := by
  have := G.room.un
  omega
theorem Good.gl {g : Gi} {ca : Nat → Addr} {n : Nat} {N : List Str} {sc : Scope} {W : WX} {X : Cx} (G : Good g ca n N sc W X) {x : Str} (h : glB sc x = true) : Gl X x := by
  have h := of_decide_eq_true h
  exact G.keep x _ (by decide) h
theorem Good.vis {g : Gi} {ca : Nat → Addr} {n : Nat} {N : List Str} {sc : Scope} {W : WX} {X : Cx} (G : Good g ca n N sc W X) {x : Str} (h : visB sc x = true) : Vis X.env.scope x := by
  rcases vis_of h with h | h | h
  · exact .inl (G.keep x _ (by decide) h)
  · exact .inr (.inl (G.keep x _ (by decide) h))
  · rcases G.fre x h with h | h
    · exact .inr (.inr h)
    · exact .inr (.inl h)
theorem Good.blkOk {g : Gi} {ca : Nat → Addr} {n : Nat} {N : List Str} {sc scope : Scope} {W : WX} {X : Cx} {own : List (Str × Nat)} (G : Good g ca n N sc W X) (ok : BlkOk N sc scope own) : BlkOk N X.env.scope scope own :=
  ⟨ok.kind, ok.uniq, ok.ix, fun y hy e => by
    rcases ok.free y hy e with h | h
    · exact .inl (G.keep _ _ (by decide) h)
    · rcases G.fre _ h with h | h
      · exact .inr h
      · exact .inl h, ok.own⟩
theorem rel_free {sc : Scope} : ∀ {names : List (Str × NameKind)} {x : Str}, names.lookup x = some .free →
    (names.map fun (n, k) => if (k == NameKind.free && sc.kind == .function && sc.names.lookup n == some .cell) then (n, NameKind.cell) else (n, k)).lookup x = some .free ∨
    (names.map fun (n, k) => if (k == NameKind.free && sc.kind == .function && sc.names.lookup n == some .cell) then (n, NameKind.cell) else (n, k)).lookup x = some .cell
  | [], _, h => by simp at h
  | (n, k) :: r, x, h => by
    have ih := @rel_free sc r x
    show List.lookup x ((if (k == NameKind.free && sc.kind == .function && sc.names.lookup n == some .cell) = true then (n, NameKind.cell) else (n, k)) :: (r.map _)) = some .free ∨ List.lookup x ((if (k == NameKind.free && sc.kind == .function && sc.names.lookup n == some .cell) = true then (n, NameKind.cell) else (n, k)) :: (r.map _)) = some .cell
    cases hx : x == n with
    | true =>
      simp only [List.lookup_cons, hx] at h
      cases h
      split <;> simp [List.lookup_cons, hx]
    | false =>
      simp only [List.lookup_cons, hx] at h
      split <;> simpa only [List.lookup_cons, hx] using ih h
/-- in a comprehension's block -/
theorem Good.blk {g : Gi} {ca : Nat → Addr} {n : Nat} {N : List Str} {sc scope : Scope} {W : WX} {X : Cx} (G : Good g ca n N sc W X) (hk : scope.kind = .function) (s : Shared) (H : Hp) (C : Addr) (cl : List (Str × Addr)) (fp : List Addr) :
    Good g ca n N scope WF (X.blk s H scope (compEnvC scope cl C X.env) fp) where
  hN := G.hN
  nd := G.nd
  keep := fun x k hk' h => lookup_relS_keep hk' h
  fre := fun x h => rel_free h
  ekind := hk
  calm := G.calm
  room := G.room
  tk := takes0
  facts := G.facts
  kind := hk
  fnc := fun x h => by
    show (scope.names.lookup x == some .cell) = true
    rw [h]; rfl
structure Out (X : Cx) (ca : Nat → Addr) (W : WX) (cl : Calls) (e : Expr) (ce : CE) : Prop where
  pe : PE X e (tE X.K ca W (ev cl ce))
  pt : PT X e (tT X.K ca W (ev cl ce))
  pw : ∀ op vs pos, e = .BoolOp op vs pos → PW X e (tT X.K ca W (ev cl ce))
/-- an expression that is tested by its value -/
def plainT : Expr → Bool
  | .BoolOp _ _ _ => false
  | .UnaryOp .Not _ _ => false
  | .IfExp _ _ _ _ => false
  | .Compare _ _ _ _ => false
  | _ => true
theorem plainT_ok {e : Expr} {env : PySem.Env} (h : plainT e = true) : ∀ whole, isTrue e env whole = (do let v ← whole; standAt e.pos; holding [v] (truthy v)) := by
  intro whole
  cases e <;> first | rfl | (cases h; done) | skip
  rename_i op a pos
  cases op <;> first | rfl | (cases h)
section
variable {g : Gi} {ca : Nat → Addr} {n : Nat} {N : List Str} {sc : Scope} {W : WX} {X : Cx} {cl : Calls} {e : Expr}
theorem out_val {ce : CE} (h : PE X e (tE X.K ca W (ev cl ce))) (hp : plainT e = true) : Out X ca W cl e ce :=
  ⟨h, t_val h (plainT_ok hp), fun op vs pos q => by subst q; cases hp⟩
theorem out_cmp {ce : CE} (h : PE X e (tE X.K ca W (ev cl ce))) (h2 : PT X e (tT X.K ca W (ev cl ce))) (hp : ∀ op vs pos, e ≠ .BoolOp op vs pos) : Out X ca W cl e ce :=
  ⟨h, h2, fun op vs pos q => absurd q (hp op vs pos)⟩
theorem and2 {a b : Bool} (h : (a && b) = true) : a = true ∧ b = true := by simpa using h
theorem not1 {a : Bool} (h : (!a) = true) : a = false := by simpa using h
/-- the hypothesis of a part -/
abbrev IHE (g : Gi) (ca : Nat → Addr) (n : Nat) (N : List Str) (ce : CE) : Prop := ∀ (sc : Scope) (W : WX) (X : Cx) (e : Expr), Good g ca n N sc W X → chkE g N ce sc e = true → Out X ca W (callN g.tab n) e ce
abbrev IHEs (g : Gi) (ca : Nat → Addr) (n : Nat) (N : List Str) (ces : CEs) : Prop := ∀ (sc : Scope) (W : WX) (X : Cx) (es : List Expr), Good g ca n N sc W X → noStars es = true → chkEs g N ces sc es = true → PA X es (tEs X.K ca W (evs (callN g.tab n) ces))
abbrev IHO (g : Gi) (ca : Nat → Addr) (n : Nat) (N : List Str) (o : CO) : Prop := ∀ (sc : Scope) (W : WX) (X : Cx) (e : Option Expr), Good g ca n N sc W X → chkO g N o sc e = true → PO X e (tO X.K ca W (evO (callN g.tab n) o))
abbrev IHI (g : Gi) (ca : Nat → Addr) (n : Nat) (N : List Str) (it : CI) : Prop := ∀ (sc : Scope) (W : WX) (X : Cx) (tg e : Expr), Good g ca n N sc W X → chkI g N it sc tg e = true → PI X tg e (tI X.K ca W (evI (callN g.tab n) it))
theorem ndb_of {x : Str} (h : ndb x = true) : (x == ("__debug__" : Str)) = false := not1 h
theorem c_var {i : Nat} : IHE g ca n N (.var i) := by
  intro sc W X e G h
  unfold chkE at h
  cases e <;> first | (cases h; done) | skip
  obtain ⟨h1, h2⟩ := and2 h
  obtain ⟨h3, h4⟩ := and2 h2
  obtain ⟨h5, h6⟩ := and2 h4
  exact out_val (e_var (by rw [G.hN]; exact of_decide_eq_true h1) (G.vis h3) (not1 h5) (not1 h6)) rfl
theorem c_con {d : D} : IHE g ca n N (.con d) := by
  intro sc W X e G h
  unfold chkE at h
  cases e <;> first | (cases h; done) | skip
  · rename_i c j pos
    cases c <;> first | (cases h; done) | skip
    · cases d <;> first | (cases h; done) | skip
      exact out_val (e_con pe_non fun _ _ => .non) rfl
    · cases d <;> first | (cases h; done) | skip
      cases (of_decide_eq_true h : _ = _)
      rename_i b
      exact out_val (e_con pe_bl fun _ _ => .bl _) rfl
    · cases d <;> first | (cases h; done) | skip
      cases (of_decide_eq_true h : _ = _)
      rename_i b
      exact out_val (e_con pe_int fun _ _ => .int _) rfl
    · cases d <;> first | (cases h; done) | skip
      cases (of_decide_eq_true h : _ = _)
      rename_i b
      exact out_val (e_con pe_str fun _ _ => .str _) rfl
  · obtain ⟨h1, h2⟩ := and2 h
    obtain ⟨h3, h4⟩ := and2 h1
    cases d <;> first | (cases h2; done) | skip
    · obtain ⟨u, q1, q2⟩ := G.facts.num _ (of_decide_eq_true h2)
      exact out_val (e_con (pe_glob (G.gl h3) q1 q2 (ndb_of h4)) fun _ _ => .int _) rfl
    · obtain ⟨u, q1, q2⟩ := G.facts.txt _ (of_decide_eq_true h2)
      exact out_val (e_con (pe_glob (G.gl h3) q1 q2 (ndb_of h4)) fun _ _ => .str _) rfl
    · obtain ⟨p, hp, hq⟩ := List.any_eq_true.mp h2
      obtain ⟨h5, h6⟩ := and2 hq
      obtain ⟨v, u, q1, q2, q3⟩ := G.facts.tup _ hp
      rw [of_decide_eq_true h5] at q1
      rw [sameD_ok h6] at q3
      exact out_val (e_con (pe_glob (G.gl h3) q1 q2 (ndb_of h4)) q3) rfl
theorem c_bin {op : Op} {a b : CE} (ha : IHE g ca n N a) (hb : IHE g ca n N b) : IHE g ca n N (.bin op a b) := by
  intro sc W X e G h
  unfold chkE at h
  cases e <;> first | (cases h; done) | skip
  obtain ⟨h1, h2⟩ := and2 h
  obtain ⟨h3, h4⟩ := and2 h2
  cases (of_decide_eq_true h1)
  exact out_val (e_op op (ha sc W X _ G h3).pe (hb sc W X _ G h4).pe) rfl
theorem c_neg {a : CE} (ha : IHE g ca n N a) : IHE g ca n N (.neg a) := by
  intro sc W X e G h
  unfold chkE at h
  split at h
  · exact out_val (e_neg (ha sc W X _ G h).pe) rfl
  · cases h
theorem c_cmp {op : Co} {a b : CE} (ha : IHE g ca n N a) (hb : IHE g ca n N b) : IHE g ca n N (.cmp op a b) := by
  intro sc W X e G h
  unfold chkE at h
  split at h
  · obtain ⟨h1, h2⟩ := and2 h
    obtain ⟨h0, h2⟩ := and2 h2
    obtain ⟨h3, h4⟩ := and2 h2
    cases (of_decide_eq_true h1)
    exact out_cmp (e_cmp op G.un (ha sc W X _ G h3).pe (hb sc W X _ G h4).pe (not1 h0)) (t_cmp op G.un (ha sc W X _ G h3).pe (hb sc W X _ G h4).pe (not1 h0)) (fun _ _ _ => by intro z; cases z)
  · cases h
theorem c_isN {a : CE} (ha : IHE g ca n N a) : IHE g ca n N (.isN a) := by
  intro sc W X e G h
  unfold chkE at h
  split at h
  · exact out_cmp (e_isN (ha sc W X _ G h).pe) (t_isN (ha sc W X _ G h).pe) (fun _ _ _ => by intro z; cases z)
  · cases h
theorem c_notN {a : CE} (ha : IHE g ca n N a) : IHE g ca n N (.notN a) := by
  intro sc W X e G h
  unfold chkE at h
  split at h
  · exact out_cmp (e_notN (ha sc W X _ G h).pe) (t_notN (ha sc W X _ G h).pe) (fun _ _ _ => by intro z; cases z)
  · cases h
theorem c_chain {p q : Co} {a b c : CE} (ha : IHE g ca n N a) (hb : IHE g ca n N b) (hc : IHE g ca n N c) : IHE g ca n N (.chain p q a b c) := by
  intro sc W X e G h
  unfold chkE at h
  split at h
  · obtain ⟨h1, h⟩ := and2 h
    obtain ⟨h2, h⟩ := and2 h
    obtain ⟨h0, h⟩ := and2 h
    obtain ⟨h3, h⟩ := and2 h
    obtain ⟨h4, h5⟩ := and2 h
    cases (of_decide_eq_true h1)
    cases (of_decide_eq_true h2)
    exact out_cmp (e_chain G.un (ha sc W X _ G h3).pe (hb sc W X _ G h4).pe (hc sc W X _ G h5).pe (not1 h0)) (t_chain G.un (ha sc W X _ G h3).pe (hb sc W X _ G h4).pe (hc sc W X _ G h5).pe (not1 h0)) (fun _ _ _ => by intro z; cases z)
  · cases h
theorem c_and {a b : CE} (ha : IHE g ca n N a) (hb : IHE g ca n N b) : IHE g ca n N (.and a b) := by
  intro sc W X e G h
  unfold chkE at h
  split at h
  · rename_i ea eb rest pos
    obtain ⟨h1, h2⟩ := and2 h
    have qa := ha sc W X _ G h1
    cases rest with
    | nil =>
      have qb := hb sc W X eb G h2
      have w := t_and (pos := pos) qa.pt (pw_and1 (pos := pos) qb.pt)
      exact ⟨e_and (pos' := pos) qa.pe (e_one qb.pe), w.pt, fun _ _ _ _ => w⟩
    | cons x r =>
      have qb := hb sc W X _ G h2
      have w := t_and (pos := pos) qa.pt (qb.pw _ _ _ rfl)
      exact ⟨e_and (pos' := pos) qa.pe qb.pe, w.pt, fun _ _ _ _ => w⟩
  · cases h
theorem c_or {a b : CE} (ha : IHE g ca n N a) (hb : IHE g ca n N b) : IHE g ca n N (.or a b) := by
  intro sc W X e G h
  unfold chkE at h
  split at h
  · rename_i ea eb rest pos
    obtain ⟨h1, h2⟩ := and2 h
    have qa := ha sc W X _ G h1
    cases rest with
    | nil =>
      have qb := hb sc W X eb G h2
      have w := t_or (pos := pos) qa.pt (pw_or1 (pos := pos) qb.pt)
      exact ⟨e_or qa.pe (e_one qb.pe), w.pt, fun _ _ _ _ => w⟩
    | cons x r =>
      have qb := hb sc W X _ G h2
      have w := t_or (pos := pos) qa.pt (qb.pw _ _ _ rfl)
      exact ⟨e_or qa.pe qb.pe, w.pt, fun _ _ _ _ => w⟩
  · cases h
theorem c_not {a : CE} (ha : IHE g ca n N a) : IHE g ca n N (.not a) := by
  intro sc W X e G h
  unfold chkE at h
  split at h
  · exact out_cmp (e_not (ha sc W X _ G h).pe) (t_not (ha sc W X _ G h).pt) (fun _ _ _ => by intro z; cases z)
  · cases h
theorem c_notV {a : CE} (ha : IHE g ca n N a) : IHE g ca n N (.notV a) := by
  intro sc W X e G h
  unfold chkE at h
  split at h
  · exact out_cmp (e_notV (ha sc W X _ G h).pe) (t_notV (ha sc W X _ G h).pe (fun _ => rfl)) (fun _ _ _ => by intro z; cases z)
  · cases h
theorem t_ite {ec ea eb : Expr} {pos : Pos} {f1 f2 f3 : Rf.Env → Mem → Res D} (hc : PT X ec (tT X.K ca W f1)) (ha : PT X ea (tT X.K ca W f2)) (hb : PT X eb (tT X.K ca W f3)) :
    PT X (.IfExp ec ea eb pos) (tT X.K ca W fun env M => (asB (f1 env M)).bind fun t M => if t then f2 env M else f3 env M) := by
  refine ⟨fun pins s σ H Q I ⟨p, F, env, M, rm, re, q⟩ => ?_⟩
  show wpAny _ _ (do if ← isTrue ec X.env (eval ec X.env) then isTrue ea X.env (eval ea X.env) else isTrue eb X.env (eval eb X.env)) _ _ s
  have q : At X.K ca W σ eqB p F H (asB ((asB (f1 env M)).bind fun t M => if t then f2 env M else f3 env M)) Q := q
  rw [asB_bind] at q
  refine wpAny_bind (thn (hc.run pins s σ H _ I ⟨p, F, env, M, rm, re, q.bind (rel1 := eqB)⟩) fun t s1 ⟨H1, I1, p1, F1, M1, d, s2, rm1, r1, q1⟩ => ?_)
  have r1 : t = d := r1
  subst r1
  rw [asB_if] at q1
  cases t with
  | true => exact ha.run pins s1 σ H1 Q I1 ⟨p1, F1, env, M1, rm1, re.mono s2.toLe, q1⟩
  | false => exact hb.run pins s1 σ H1 Q I1 ⟨p1, F1, env, M1, rm1, re.mono s2.toLe, q1⟩
theorem c_ite {c a b : CE} (hc : IHE g ca n N c) (ha : IHE g ca n N a) (hb : IHE g ca n N b) : IHE g ca n N (.ite c a b) := by
  intro sc W X e G h
  unfold chkE at h
  split at h
  · obtain ⟨h1, h⟩ := and2 h
    obtain ⟨h2, h3⟩ := and2 h
    exact out_cmp (e_ite (hc sc W X _ G h1).pt (ha sc W X _ G h2).pe (hb sc W X _ G h3).pe) (t_ite (hc sc W X _ G h1).pt (ha sc W X _ G h2).pt (hb sc W X _ G h3).pt) (fun _ _ _ => by intro z; cases z)
  · cases h
theorem c_tup {es : CEs} (hs : IHEs g ca n N es) : IHE g ca n N (.tup es) := by
  intro sc W X e G h
  unfold chkE at h
  split at h
  · obtain ⟨h1, h2⟩ := and2 h
    exact out_val (e_tup (hs sc W X _ G h1 h2)) rfl
  · cases h
theorem c_lst {es : CEs} (hs : IHEs g ca n N es) : IHE g ca n N (.lst es) := by
  intro sc W X e G h
  unfold chkE at h
  split at h
  · obtain ⟨h1, h2⟩ := and2 h
    exact out_val (e_lst (hs sc W X _ G h1 h2)) rfl
  · cases h
theorem c_lstM {es : CEs} (hs : IHEs g ca n N es) : IHE g ca n N (.lstM es) := by
  intro sc W X e G h
  unfold chkE at h
  split at h
  · obtain ⟨h1, h2⟩ := and2 h
    exact out_val (e_lstM (hs sc W X _ G h1 h2)) rfl
  · cases h
theorem c_idx {a i : CE} (ha : IHE g ca n N a) (hi : IHE g ca n N i) : IHE g ca n N (.idx a i) := by
  intro sc W X e G h
  unfold chkE at h
  split at h
  · obtain ⟨h1, h⟩ := and2 h
    obtain ⟨h2, h3⟩ := and2 h
    exact out_val (e_idx (not1 h1) (ha sc W X _ G h2).pe (hi sc W X _ G h3).pe) rfl
  · cases h
theorem c_idxD {a i : CE} (ha : IHE g ca n N a) (hi : IHE g ca n N i) : IHE g ca n N (.idxD a i) := by
  intro sc W X e G h
  unfold chkE at h
  split at h
  · obtain ⟨h1, h⟩ := and2 h
    obtain ⟨h2, h3⟩ := and2 h
    exact out_val (e_idxD (not1 h1) G.un1 (ha sc W X _ G h2).pe (hi sc W X _ G h3).pe) rfl
  · cases h
theorem c_inD {k a : CE} (hk : IHE g ca n N k) (ha : IHE g ca n N a) : IHE g ca n N (.inD k a) := by
  intro sc W X e G h
  unfold chkE at h
  split at h
  · obtain ⟨h1, h⟩ := and2 h
    obtain ⟨h2, h3⟩ := and2 h
    exact out_cmp (e_inD G.un1 (hk sc W X _ G h2).pe (ha sc W X _ G h3).pe (not1 h1)) (t_inD G.un1 (hk sc W X _ G h2).pe (ha sc W X _ G h3).pe (not1 h1)) (fun _ _ _ => by intro z; cases z)
  · cases h
theorem c_ninD {k a : CE} (hk : IHE g ca n N k) (ha : IHE g ca n N a) : IHE g ca n N (.ninD k a) := by
  intro sc W X e G h
  unfold chkE at h
  split at h
  · obtain ⟨h1, h⟩ := and2 h
    obtain ⟨h2, h3⟩ := and2 h
    exact out_cmp (e_ninD G.un1 (hk sc W X _ G h2).pe (ha sc W X _ G h3).pe (not1 h1)) (t_ninD G.un1 (hk sc W X _ G h2).pe (ha sc W X _ G h3).pe (not1 h1)) (fun _ _ _ => by intro z; cases z)
  · cases h
theorem c_slc {a : CE} {lo hi : CO} (ha : IHE g ca n N a) (hl : IHO g ca n N lo) (hh : IHO g ca n N hi) : IHE g ca n N (.slc a lo hi) := by
  intro sc W X e G h
  unfold chkE at h
  split at h
  · obtain ⟨h1, h⟩ := and2 h
    obtain ⟨h2, h3⟩ := and2 h
    exact out_val (e_slc (ha sc W X _ G h1).pe (hl sc W X _ G h2) (hh sc W X _ G h3)) rfl
  · cases h
theorem c_rev {a : CE} (ha : IHE g ca n N a) : IHE g ca n N (.rev a) := by
  intro sc W X e G h
  unfold chkE at h
  split at h
  · exact out_val (e_revA (ha sc W X _ G h).pe) rfl
  · cases h
theorem c_call {f : Nat} {es : CEs} {more : List D} (hs : IHEs g ca n N es) : IHE g ca n N (.call f es more) := by
  intro sc W X e G h
  unfold chkE at h
  split at h
  · rename_i x px ees pos
    obtain ⟨h1, h⟩ := and2 h
    obtain ⟨h2, h⟩ := and2 h
    obtain ⟨h3, h⟩ := and2 h
    obtain ⟨h4, h⟩ := and2 h
    split at h
    · rename_i cf hf
      obtain ⟨h5, h6⟩ := and2 h
      obtain ⟨b, hb, h7⟩ := List.any_eq_true.mp h6
      obtain ⟨h8, h9⟩ := and2 h7
      obtain ⟨adr, fd, q1, q2, q3, _, q4⟩ := G.facts.fn f cf hf
      obtain ⟨dvs, ds, d1, d2, d3⟩ := q4 b hb
      rw [of_decide_eq_true h5] at q2
      rw [sameDs_ok h9] at d3
      have ha := hs sc W X _ G h3 h4
      refine out_val ?_ rfl
      cases ees with
      | nil =>
        cases es with
        | nil => exact e_call0 q1 G.room (G.gl h1) q2 q3 d2 d1 d3 G.tk (ndb_of h2)
        | cons _ _ => cases h4
      | cons e0 er => exact e_call q1 G.room (G.gl h1) q2 q3 d2 d1 d3 G.tk ha (ndb_of h2) h3
    · cases h
  · cases h
theorem notname {x : Str} (h : x = "abs" ∨ True) (hx : decide (x = ("__name__" : Str)) = false) : x ≠ "__name__" := of_decide_eq_false hx
def IHA (g : Gi) (ca : Nat → Addr) (n : Nat) (N : List Str) : CEs → Prop
  | .nil => True
  | .cons a as => IHE g ca n N a ∧ IHA g ca n N as
theorem c_bi {b : Bi} {es : CEs} (hs : IHEs g ca n N es) (hA : IHA g ca n N es) : IHE g ca n N (.bi b es) := by
  intro sc W X e G h
  unfold chkE at h
  split at h
  · rename_i x px ees pos
    by_cases hb0 : b = .sortSet
    · subst hb0
      rw [if_pos (by decide)] at h
      split at h
      · rename_i y py ea pos2
        obtain ⟨h1, h⟩ := and2 h
        obtain ⟨h2, h⟩ := and2 h
        obtain ⟨h3, h⟩ := and2 h
        obtain ⟨h4, h⟩ := and2 h
        obtain ⟨h5, h⟩ := and2 h
        obtain ⟨h6, h⟩ := and2 h
        obtain ⟨h7, h8⟩ := and2 h
        cases (of_decide_eq_true h1)
        cases (of_decide_eq_true h2)
        cases es with
        | nil => cases h8
        | cons ce ces =>
          cases ces with
          | cons _ _ => have h9 := (and2 (show (chkE g N ce sc ea && chkEs g N _ sc []) = true from h8)).2; cases h9
          | nil =>
            have h9 := (and2 (show (chkE g N ce sc ea && chkEs g N .nil sc []) = true from h8)).1
            exact out_val (e_sortSet G.calm (G.gl h3) (G.facts.free _ (of_decide_eq_true h5)) (G.gl h4) (G.facts.free _ (of_decide_eq_true h6)) (hA.1 sc W X ea G h9).pe (not1 h7)) rfl
      · cases h
    rw [if_neg (by simpa using hb0)] at h
    obtain ⟨h1, h⟩ := and2 h
    obtain ⟨h2, h⟩ := and2 h
    obtain ⟨h3, h⟩ := and2 h
    obtain ⟨h4, h⟩ := and2 h
    obtain ⟨h5, h6⟩ := and2 h
    have hb := of_decide_eq_true h4
    have hm := G.facts.free x (of_decide_eq_true h5)
    have ha := hs sc W X _ G h2 h6
    have hg := G.gl h3
    cases ees with
    | nil => cases h1
    | cons e0 er =>
      refine out_val ?_ rfl
      cases b <;> first | (cases hb; done) | skip
      · cases hb; exact e_bi cr_absD hg hm (by decide +kernel) ha (by decide) (by decide) h2
      · cases hb; exact e_bi (cr_allD G.calm) hg hm (by decide +kernel) ha (by decide) (by decide) h2
      · cases hb; exact e_bi (cr_anyD G.calm) hg hm (by decide +kernel) ha (by decide) (by decide) h2
      · cases hb; exact e_ty cr_boolD hg hm (by decide +kernel) ha (by decide) (by decide) h2
      · cases hb; exact e_ty cr_intD hg hm (by decide +kernel) ha (by decide) (by decide) h2
      · cases hb; exact e_bi cr_lenD hg hm (by decide +kernel) ha (by decide) (by decide) h2
      · cases hb; exact e_ty cr_listD hg hm (by decide +kernel) ha (by decide) (by decide) h2
      · cases hb; exact e_ty cr_tupleD hg hm (by decide +kernel) ha (by decide) (by decide) h2
      · cases hb; exact e_bi (cr_max2D G.calm) hg hm (by decide +kernel) ha (by decide) (by decide) h2
      · cases hb; exact e_bi (cr_min2D G.calm) hg hm (by decide +kernel) ha (by decide) (by decide) h2
      · cases hb; exact e_ty (cr_dictD G.calm) hg hm (by decide +kernel) ha (by decide) (by decide) h2
      · cases hb; exact e_ty cr_strOfD hg hm (by decide +kernel) ha (by decide) (by decide) h2
      · cases hb; exact e_bi cr_sortStrD hg hm (by decide +kernel) ha (by decide) (by decide) h2
  · cases h
theorem c_rngL {a : CE} (ha : IHE g ca n N a) : IHE g ca n N (.rngL a) := by
  intro sc W X e G h
  unfold chkE at h
  split at h
  · obtain ⟨h1, h⟩ := and2 h
    obtain ⟨h2, h⟩ := and2 h
    obtain ⟨h3, h⟩ := and2 h
    obtain ⟨h4, h⟩ := and2 h
    obtain ⟨h5, h⟩ := and2 h
    obtain ⟨h6, h⟩ := and2 h
    obtain ⟨h7, h8⟩ := and2 h
    cases (of_decide_eq_true h1)
    cases (of_decide_eq_true h2)
    exact out_val (e_rngL (x := "list") (y := "range") G.calm (G.gl h3) (G.facts.free _ (of_decide_eq_true h5)) (G.gl h4) (G.facts.free _ (of_decide_eq_true h6)) (ha sc W X _ G h8).pe (not1 h7)) rfl
  · cases h
theorem c_rngL2 {a b : CE} (ha : IHE g ca n N a) (hb : IHE g ca n N b) : IHE g ca n N (.rngL2 a b) := by
  intro sc W X e G h
  unfold chkE at h
  split at h
  · obtain ⟨h1, h⟩ := and2 h
    obtain ⟨h2, h⟩ := and2 h
    obtain ⟨h3, h⟩ := and2 h
    obtain ⟨h4, h⟩ := and2 h
    obtain ⟨h5, h⟩ := and2 h
    obtain ⟨h6, h⟩ := and2 h
    obtain ⟨h7, h⟩ := and2 h
    obtain ⟨h8, h⟩ := and2 h
    obtain ⟨h9, h10⟩ := and2 h
    cases (of_decide_eq_true h1)
    cases (of_decide_eq_true h2)
    exact out_val (e_rngL2 G.calm (G.gl h3) (G.facts.free _ (of_decide_eq_true h5)) (G.gl h4) (G.facts.free _ (of_decide_eq_true h6)) (ha sc W X _ G h9).pe (hb sc W X _ G h10).pe (not1 h7) (not1 h8)) rfl
  · cases h
theorem c_isi {a : CE} {t : Ty} (ha : IHE g ca n N a) : IHE g ca n N (.isi a t) := by
  intro sc W X e G h
  unfold chkE at h
  split at h
  · obtain ⟨h1, h⟩ := and2 h
    obtain ⟨h2, h⟩ := and2 h
    obtain ⟨h3, h⟩ := and2 h
    obtain ⟨h4, h⟩ := and2 h
    obtain ⟨h5, h⟩ := and2 h
    obtain ⟨h6, h⟩ := and2 h
    obtain ⟨h7, h8⟩ := and2 h
    cases (of_decide_eq_true h1)
    exact out_val (e_isi (of_decide_eq_true h2) (G.gl h3) (G.facts.free _ (of_decide_eq_true h5)) (G.gl h4) (G.facts.free _ (of_decide_eq_true h6)) (ha sc W X _ G h8).pe (not1 h7)) rfl
  · cases h
/-! ### targets and comprehensions -/
theorem loc_of {x : Str} (G : Good g ca n N sc W X) (h : locB sc x = true) : Loc X.env.scope x ∧ (X.fn x = true ∨ X.env.scope.names.lookup x = some .local) := by
  unfold locB at h
  split at h
  · rename_i e; exact ⟨.inl (G.keep x _ (by decide) e), .inr (G.keep x _ (by decide) e)⟩
  · rename_i e; exact ⟨.inr (G.keep x _ (by decide) e), .inl (G.fnc x e)⟩
  · cases h
theorem tupT_star : ∀ {ts : TgL} {es : List Expr}, chkTgs N sc ts es = true → (assignEach es X.env).findIdx? (·.1) = none ∧ (assignEach es X.env).length = es.length
  | .nil, [], _ => ⟨rfl, rfl⟩
  | .nil, _ :: _, h => by cases h
  | .cons t ts, [], h => by cases h
  | .cons t ts, e :: es, h => by
    have h : (!isStarT e && chkTg N sc t e && chkTgs N sc ts es) = true := h
    obtain ⟨h1, h2⟩ := and2 h
    obtain ⟨h3, h4⟩ := and2 h1
    obtain ⟨q1, q2⟩ := tupT_star h2
    rw [each_cons (not1 h3)]
    refine ⟨?_, by rw [List.length_cons, List.length_cons, q2]⟩
    rw [List.findIdx?_cons]
    simp [q1]
mutual
theorem c_tg (G : Good g ca n N sc W X) : ∀ {t : Tg} {e : Expr}, chkTg N sc t e = true → PG X e (tTg X.K t)
  | .nm i, e, h => by
    unfold chkTg at h
    split at h
    · obtain ⟨h1, h2⟩ := and2 h
      obtain ⟨q1, q2⟩ := loc_of G h2
      exact g_name (by rw [G.hN]; exact G.nd) (by rw [G.hN]; exact of_decide_eq_true h1) q1 q2
    · cases h
  | .tp ts, e, h => by
    unfold chkTg at h
    split at h
    · obtain ⟨h1, h2⟩ := and2 h
      obtain ⟨q1, q2⟩ := tupT_star (X := X) h2
      exact g_tup G.calm (by rw [q2]; exact of_decide_eq_true h1) q1 (c_tgs G h2)
    · cases h
theorem c_tgs (G : Good g ca n N sc W X) : ∀ {ts : TgL} {es : List Expr}, chkTgs N sc ts es = true → PGs X es (tTgs X.K ts)
  | .nil, [], _ => gs_nil
  | .nil, _ :: _, h => by cases h
  | .cons t ts, [], h => by cases h
  | .cons t ts, e :: es, h => by
    have h : (!isStarT e && chkTg N sc t e && chkTgs N sc ts es) = true := h
    obtain ⟨h1, h2⟩ := and2 h
    obtain ⟨h3, h4⟩ := and2 h1
    exact gs_cons (not1 h3) (c_tg G h4) (c_tgs G h2)
end
theorem own_slots {slots : List Nat} : (ownOf N slots).map (·.2) = slots := by
  unfold ownOf
  rw [List.map_map]
  exact List.map_id _
theorem keysAt_some {it : CI} {i : Nat} (h : keysAt it = some i) : it = .keys i := by
  cases it <;> first | (cases h; done) | (cases h; rfl)
theorem c_keys {i : Nat} {iter : Expr} {sc : Scope} {W : WX} {X : Cx} {tgE : Expr} (G : Good g ca n N sc W X) (h : keyName N sc i iter = true) : ∃ x px, iter = .Name x px ∧ PI X tgE (.Name x px) (wiK i) := by
  unfold keyName at h
  split at h
  · rename_i x px
    obtain ⟨h1, h2⟩ := and2 h
    obtain ⟨h3, h4⟩ := and2 h2
    obtain ⟨h5, h6⟩ := and2 h4
    exact ⟨x, px, rfl, pi_keysW (by rw [G.hN]; exact of_decide_eq_true h1) (G.vis h3) (not1 h5) (not1 h6)⟩
  · cases h
theorem c_lc {el : CE} {tg : Tg} {it : CI} (he : IHE g ca n N el) (hi : IHI g ca n N it) : IHE g ca n N (.lc el tg it) := by
  intro sc W X e G h
  unfold chkE at h
  split at h
  · rename_i ee tgE iter scope pos
    obtain ⟨h1, h⟩ := and2 h
    obtain ⟨h2, h⟩ := and2 h
    obtain ⟨h3, h⟩ := and2 h
    obtain ⟨h4, h5⟩ := and2 h
    have ok := blkOk_by h1
    split at h3
    · rename_i i hk
      obtain ⟨x, px, rfl, hp⟩ := c_keys (tgE := tgE) G h3
      rw [keysAt_some hk]
      exact out_val (e_lcK G.calm (by rw [G.hN]; exact G.nd) hp (by rw [G.hN]; exact G.blkOk ok) own_slots (fun s H C cl fp => c_tg (G.blk ok.kind s H C cl fp) h2) (fun s H C cl fp => (he scope WF _ _ (G.blk ok.kind s H C cl fp) h5).pe)) rfl
    · exact out_val (e_lc G.calm (by rw [G.hN]; exact G.nd) (hi sc W X _ _ G h3) (by rw [G.hN]; exact G.blkOk ok) own_slots (fun s H C cl fp => c_tg (G.blk ok.kind s H C cl fp) h2) (fun s H C cl fp => (he scope WF _ _ (G.blk ok.kind s H C cl fp) h5).pe) (not1 h4)) rfl
  · cases h
theorem c_lcIf {el c : CE} {tg : Tg} {it : CI} (he : IHE g ca n N el) (hi : IHI g ca n N it) (hc : IHE g ca n N c) : IHE g ca n N (.lcIf el tg it c) := by
  intro sc W X e G h
  unfold chkE at h
  split at h
  · rename_i ee tgE iter ec scope pos
    obtain ⟨h1, h⟩ := and2 h
    obtain ⟨h2, h⟩ := and2 h
    obtain ⟨h3, h⟩ := and2 h
    obtain ⟨h4, h⟩ := and2 h
    obtain ⟨h5, h6⟩ := and2 h
    have ok := blkOk_by h1
    split at h3
    · rename_i i hk
      obtain ⟨x, px, rfl, hp⟩ := c_keys (tgE := tgE) G h3
      rw [keysAt_some hk]
      exact out_val (e_lcIfK G.calm (by rw [G.hN]; exact G.nd) hp (by rw [G.hN]; exact G.blkOk ok) own_slots (fun s H C cl fp => c_tg (G.blk ok.kind s H C cl fp) h2) (fun s H C cl fp => (hc scope WF _ _ (G.blk ok.kind s H C cl fp) h6).pt) (fun s H C cl fp => (he scope WF _ _ (G.blk ok.kind s H C cl fp) h5).pe)) rfl
    · exact out_val (e_lcIf G.calm (by rw [G.hN]; exact G.nd) (hi sc W X _ _ G h3) (by rw [G.hN]; exact G.blkOk ok) own_slots (fun s H C cl fp => c_tg (G.blk ok.kind s H C cl fp) h2) (fun s H C cl fp => (hc scope WF _ _ (G.blk ok.kind s H C cl fp) h6).pt) (fun s H C cl fp => (he scope WF _ _ (G.blk ok.kind s H C cl fp) h5).pe) (not1 h4)) rfl
  · cases h
theorem c_dcIf {k el c : CE} {tg : Tg} {it : CI} (hk : IHE g ca n N k) (he : IHE g ca n N el) (hc : IHE g ca n N c) : IHE g ca n N (.dcIfM k el tg it c) := by
  intro sc W X e G h
  unfold chkE at h
  split at h
  · rename_i ke ee tgE iter ec scope pos
    obtain ⟨h1, h⟩ := and2 h
    obtain ⟨h2, h⟩ := and2 h
    obtain ⟨h3, h⟩ := and2 h
    obtain ⟨h4, h⟩ := and2 h
    obtain ⟨h5, h6⟩ := and2 h
    have ok := blkOk_by h1
    split at h3
    · rename_i i hki
      obtain ⟨x, px, rfl, hp⟩ := c_keys (tgE := tgE) G h3
      rw [keysAt_some hki]
      exact out_val (e_dcIfK G.calm (by rw [G.hN]; exact G.nd) hp (by rw [G.hN]; exact G.blkOk ok) own_slots (fun s H C cl fp => c_tg (G.blk ok.kind s H C cl fp) h2) (fun s H C cl fp => (hc scope WF _ _ (G.blk ok.kind s H C cl fp) h6).pt) (fun s H C cl fp => (hk scope WF _ _ (G.blk ok.kind s H C cl fp) h4).pe) (fun s H C cl fp => (he scope WF _ _ (G.blk ok.kind s H C cl fp) h5).pe)) rfl
    · cases h3
  · cases h
/-! ### what is walked -/
theorem ci_seq {a : CE} (ha : IHE g ca n N a) : IHI g ca n N (.seq a) := by
  intro sc W X tg e G h
  exact i_seq (ha sc W X _ G h).pe
theorem ci_rng {a : CE} (ha : IHE g ca n N a) : IHI g ca n N (.rng a) := by
  intro sc W X tg e G h
  unfold chkI at h
  split at h
  · obtain ⟨h1, h⟩ := and2 h
    obtain ⟨h2, h⟩ := and2 h
    obtain ⟨h3, h⟩ := and2 h
    obtain ⟨h4, h5⟩ := and2 h
    cases (of_decide_eq_true h1)
    exact i_rng (G.gl h2) (G.facts.free _ (of_decide_eq_true h3)) (not1 h4) (ha sc W X _ G h5).pe
  · cases h
theorem ci_rng2 {a b : CE} (ha : IHE g ca n N a) (hb : IHE g ca n N b) : IHI g ca n N (.rng2 a b) := by
  intro sc W X tg e G h
  unfold chkI at h
  split at h
  · obtain ⟨h1, h⟩ := and2 h
    obtain ⟨h2, h⟩ := and2 h
    obtain ⟨h3, h⟩ := and2 h
    obtain ⟨h4, h⟩ := and2 h
    obtain ⟨h5, h⟩ := and2 h
    obtain ⟨h6, h7⟩ := and2 h
    cases (of_decide_eq_true h1)
    exact i_rng2 (G.gl h2) (G.facts.free _ (of_decide_eq_true h3)) (not1 h4) (not1 h5) (ha sc W X _ G h6).pe (hb sc W X _ G h7).pe
  · cases h
theorem ci_enum {a : CE} (ha : IHE g ca n N a) : IHI g ca n N (.enum a) := by
  intro sc W X tg e G h
  unfold chkI at h
  split at h
  · obtain ⟨h0, h⟩ := and2 h
    obtain ⟨h1, h⟩ := and2 h
    obtain ⟨h2, h⟩ := and2 h
    obtain ⟨h3, h⟩ := and2 h
    obtain ⟨h4, h5⟩ := and2 h
    cases (of_decide_eq_true h1)
    cases tg <;> first | (cases h0; done) | skip
    exact i_enum (G.gl h2) (G.facts.free _ (of_decide_eq_true h3)) (not1 h4) (ha sc W X _ G h5).pe
  · cases h
theorem ci_zip {a b : CE} (ha : IHE g ca n N a) (hb : IHE g ca n N b) : IHI g ca n N (.zip a b) := by
  intro sc W X tg e G h
  unfold chkI at h
  split at h
  · obtain ⟨h0, h⟩ := and2 h
    obtain ⟨h1, h⟩ := and2 h
    obtain ⟨h2, h⟩ := and2 h
    obtain ⟨h3, h⟩ := and2 h
    obtain ⟨h4, h⟩ := and2 h
    obtain ⟨h5, h⟩ := and2 h
    obtain ⟨h6, h7⟩ := and2 h
    cases (of_decide_eq_true h1)
    cases tg <;> first | (cases h0; done) | skip
    exact i_zipA (G.gl h2) (G.facts.free _ (of_decide_eq_true h3)) (not1 h4) (not1 h5) (ha sc W X _ G h6).pe (hb sc W X _ G h7).pe
  · cases h
abbrev IHD (g : Gi) (ca : Nat → Addr) (n : Nat) (N : List Str) (ces : CEs) : Prop := ∀ (sc : Scope) (W : WX) (X : Cx) (ks : List Key) (kes : List (Option Expr)) (es : List Expr), Good g ca n N sc W X → chkD g N ces ks sc kes es = true → DE X ca W (callN g.tab n) kes es ks ces
abbrev IHJ (g : Gi) (ca : Nat → Addr) (n : Nat) (N : List Str) (ces : CEs) : Prop := ∀ (sc : Scope) (W : WX) (X : Cx) (es : List Expr), Good g ca n N sc W X → chkEs g N ces sc es = true → PJE X ca W (callN g.tab n) es ces
theorem c_dicM {ks : List Key} {es : CEs} (hs : IHD g ca n N es) : IHE g ca n N (.dicM ks es) := by
  intro sc W X e G h
  unfold chkE at h
  split at h
  · rename_i kes ees pos
    obtain ⟨h1, h⟩ := and2 h
    obtain ⟨h2, h3⟩ := and2 h
    exact out_val (e_dicM (hs sc W X _ _ _ G h3) (fun z => by rw [z] at h1; cases h1) (of_decide_eq_true h2)) rfl
  · cases h
theorem c_fmt {a : CE} (ha : IHE g ca n N a) : IHE g ca n N (.fmt a) := by
  intro sc W X e G h
  unfold chkE at h
  split at h
  · rename_i ea c sp pos
    obtain ⟨h1, h⟩ := and2 h
    obtain ⟨h2, h3⟩ := and2 h
    cases (of_decide_eq_true h1 : c = -1)
    cases sp <;> first | (cases h2; done) | skip
    exact out_val (e_fmt (ha sc W X _ G h3).pe) rfl
  · cases h
theorem c_fstr {es : CEs} (hs : IHJ g ca n N es) : IHE g ca n N (.fstr es) := by
  intro sc W X e G h
  unfold chkE at h
  split at h
  · rename_i ees pos
    obtain ⟨h1, h2⟩ := and2 h
    have hl := of_decide_eq_true h1
    have q := hs sc W X ees G h2
    match ees, hl, q with
    | v1 :: v2 :: rest, _, q => exact out_val (e_fstr q) rfl
    | [v1], hl, _ => simp at hl
    | [], hl, _ => simp at hl
  · cases h
theorem c_addM {a b : CE} (ha : IHE g ca n N a) (hb : IHE g ca n N b) : IHE g ca n N (.addM a b) := by
  intro sc W X e G h
  unfold chkE at h
  cases e <;> first | (cases h; done) | skip
  obtain ⟨h1, h2⟩ := and2 h
  obtain ⟨h3, h4⟩ := and2 h2
  cases (of_decide_eq_true h1)
  exact out_val (e_addM (ha sc W X _ G h3).pe (hb sc W X _ G h4).pe) rfl
theorem cls_at {x : Str} (G : Good g ca n N sc W X) (h : x ∈ g.clsN) : X.mg x = some (.ref (He.ga X.K x)) := by
  obtain ⟨k, hk⟩ := List.mem_iff_getElem?.mp h
  rw [← G.facts.cag k x hk]
  exact G.facts.cls k x hk
theorem lin_at {x : Str} (G : Good g ca n N sc W X) (h : x ∈ g.lins.map LnC.name) : ∃ fI, PySem.LineX.LineTxt X.prog.main.file X.K (He.ga X.K x) fI := by
  obtain ⟨l, hl, rfl⟩ := List.mem_map.mp h
  obtain ⟨j, hj⟩ := List.mem_iff_getElem?.mp hl
  obtain ⟨fI, T⟩ := G.facts.lin j l hj
  have hk : g.clsN[g.excs.length + j]? = some l.name := by
    unfold Gi.clsN
    rw [List.getElem?_append_right (Nat.le_add_right _ _), Nat.add_sub_cancel_left, List.getElem?_map, hj]
    rfl
  rw [G.facts.cag _ _ hk] at T
  exact ⟨fI, T⟩
theorem c_mkE {x : Str} {a : CE} (ha : IHE g ca n N a) : IHE g ca n N (.mkE x a) := by
  intro sc W X e G h
  unfold chkE at h
  split at h
  · obtain ⟨h1, h⟩ := and2 h
    obtain ⟨h2, h⟩ := and2 h
    obtain ⟨h3, h⟩ := and2 h
    obtain ⟨h4, h⟩ := and2 h
    obtain ⟨h5, h6⟩ := and2 h
    cases (of_decide_eq_true h1)
    obtain ⟨k, hk⟩ := List.mem_iff_getElem?.mp (of_decide_eq_true h5)
    obtain ⟨q1, q2, q3, _, _⟩ := G.facts.exc k x hk
    have hc : g.clsN[k]? = some x := by
      unfold Gi.clsN
      rw [List.getElem?_append_left ((List.getElem?_eq_some_iff.mp hk).1)]
      exact hk
    rw [G.facts.cag k x hc] at q1 q2 q3
    exact out_val (e_mkE PySem.F.excBase_ValueError q3 q1 q2 (G.gl h2) (ndb_of h3) (not1 h4) (ha sc W X _ G h6).pe) rfl
  · cases h
theorem c_mkL {x : Str} {a : CE} (ha : IHE g ca n N a) : IHE g ca n N (.mkL x a) := by
  intro sc W X e G h
  unfold chkE at h
  split at h
  · obtain ⟨h1, h⟩ := and2 h
    obtain ⟨h2, h⟩ := and2 h
    obtain ⟨h3, h⟩ := and2 h
    obtain ⟨h4, h⟩ := and2 h
    obtain ⟨h5, h⟩ := and2 h
    obtain ⟨h6, h7⟩ := and2 h
    cases (of_decide_eq_true h1)
    have h5 := of_decide_eq_true h5
    obtain ⟨fI, T⟩ := lin_at G h5
    exact out_val (e_mkL T (G.facts.ptop (fun z => by rw [z] at h5; cases h5)) (G.facts.free _ (of_decide_eq_true h6)) (cls_at G (List.mem_append_right _ h5)) G.room (G.gl h2) (ndb_of h3) (not1 h4) (ha sc W X _ G h7).pe) rfl
  · cases h
theorem mem_of_lookup {α β : Type} [BEq α] [LawfulBEq α] {y : α} {b : β} : ∀ {t : List (α × β)}, t.lookup y = some b → (y, b) ∈ t
  | [], h => by cases h
  | (z, c) :: t, h => by
    rw [List.lookup_cons] at h
    split at h
    · rename_i e
      cases h
      rw [beq_iff_eq.mp e]
      exact List.mem_cons_self
    · exact List.mem_cons_of_mem _ (mem_of_lookup h)
theorem c_isE {x : Str} {t : List (Str × Bool)} {a : CE} (ha : IHE g ca n N a) : IHE g ca n N (.isE a x t) := by
  intro sc W X e G h
  unfold chkE at h
  split at h
  · obtain ⟨h1, h⟩ := and2 h
    obtain ⟨h2, h⟩ := and2 h
    obtain ⟨h3, h⟩ := and2 h
    obtain ⟨h4, h⟩ := and2 h
    obtain ⟨h5, h⟩ := and2 h
    obtain ⟨h6, h⟩ := and2 h
    obtain ⟨h7, h⟩ := and2 h
    obtain ⟨h8, h⟩ := and2 h
    obtain ⟨h9, h10⟩ := and2 h
    cases (of_decide_eq_true h1)
    cases (of_decide_eq_true h2)
    refine out_val (e_isE (G.gl h3) (G.facts.free _ (of_decide_eq_true h6)) (G.gl h4) (ndb_of h5) (cls_at G (of_decide_eq_true h7)) (fun y b hy => ?_) (ha sc W X _ G h10).pe (not1 h9)) rfl
    obtain ⟨k1, k2⟩ := and2 (List.all_eq_true.mp h8 (y, b) (mem_of_lookup hy))
    exact ⟨(G.facts.vals y (of_decide_eq_true k2)).1, G.facts.kits _ (of_decide_eq_true k1)⟩
  · cases h
theorem c_isB {ys : List Str} {a : CE} (ha : IHE g ca n N a) : IHE g ca n N (.isB a ys) := by
  intro sc W X e G h
  unfold chkE at h
  split at h
  · obtain ⟨h1, h⟩ := and2 h
    obtain ⟨h2, h⟩ := and2 h
    obtain ⟨h3, h⟩ := and2 h
    obtain ⟨h4, h⟩ := and2 h
    obtain ⟨h5, h⟩ := and2 h
    obtain ⟨h6, h⟩ := and2 h
    obtain ⟨h7, h⟩ := and2 h
    obtain ⟨h8, h9⟩ := and2 h
    cases (of_decide_eq_true h1)
    cases (of_decide_eq_true h2)
    exact out_val (e_isB (G.gl h3) (G.facts.free _ (of_decide_eq_true h5)) (G.gl h4) (G.facts.free _ (of_decide_eq_true h6)) (fun y hy => G.facts.vals y (of_decide_eq_true (List.all_eq_true.mp h7 y hy))) (ha sc W X _ G h9).pe (not1 h8)) rfl
  · cases h
theorem c_lineE {ys : List Str} {a : CE} (ha : IHE g ca n N a) : IHE g ca n N (.lineE a ys) := by
  intro sc W X e G h
  unfold chkE at h
  split at h
  · obtain ⟨h1, h⟩ := and2 h
    obtain ⟨h2, h⟩ := and2 h
    obtain ⟨h3, h4⟩ := and2 h
    cases (of_decide_eq_true h1)
    refine out_val (e_line (fun y hy => ?_) (base_of h2) (ha sc W X _ G h4).pe) rfl
    obtain ⟨fI, T⟩ := lin_at G (of_decide_eq_true (List.all_eq_true.mp h3 y hy))
    exact ⟨⟨T.ga, T.gg, T.exC, T.hdC⟩, T.noN⟩
  · cases h
theorem recv_str {M : Mem} {b : Bi} {x : D} (hb : b = .join ∨ b = .split ∨ b = .upper) (h : recv M b x = some ()) : ∃ z, x = .str z := by
  rcases hb with rfl | rfl | rfl <;> (cases x <;> first | (cases h; done) | exact ⟨_, rfl⟩)
theorem c_me {b : Bi} {a : CE} {es : CEs} (ha : IHE g ca n N a) (hs : IHA g ca n N es) : IHE g ca n N (.me b a es) := by
  intro sc W X e G h
  unfold chkE at h
  split at h
  · obtain ⟨h1, h⟩ := and2 h
    obtain ⟨h2, h⟩ := and2 h
    obtain ⟨h3, h⟩ := and2 h
    obtain ⟨h4, h⟩ := and2 h
    obtain ⟨h5, h6⟩ := and2 h
    cases (of_decide_eq_true h3)
    cases (of_decide_eq_true h4)
    cases es with
    | nil => exact out_val (e_m0 (fun _ => rfl) PySem.F.slot_str_upper PySem.F.type_str_upper mt_upperD (fun M x h => recv_str (.inr (.inr rfl)) h) (ha sc W X _ G h6).pe h1 h2) rfl
    | cons _ _ => cases h5
  · rename_i ea m apos e1 cpos
    obtain ⟨h1, h⟩ := and2 h
    obtain ⟨h2, h⟩ := and2 h
    obtain ⟨h3, h⟩ := and2 h
    obtain ⟨h4, h⟩ := and2 h
    obtain ⟨h5, h6⟩ := and2 h
    cases es with
    | nil => cases h6
    | cons ce1 ces =>
      cases ces with
      | cons _ _ => have h6 := (and2 (show (chkE g N ce1 sc e1 && chkEs g N _ sc []) = true from h6)).2; cases h6
      | nil =>
        have h7 := (and2 (show (chkE g N ce1 sc e1 && chkEs g N .nil sc []) = true from h6)).1
        have he : PE X e1 (tE X.K ca W (ev (callN g.tab n) ce1)) := (hs.1 sc W X e1 G h7).pe
        rcases Bool.or_eq_true_iff.mp h4 with h4 | h4
        · obtain ⟨k1, k2⟩ := and2 h4
          cases (of_decide_eq_true k1)
          cases (of_decide_eq_true k2)
          exact out_val (e_count (ha sc W X _ G h5).pe he (not1 h3) h1 h2) rfl
        · rcases Bool.or_eq_true_iff.mp h4 with h4 | h4
          · obtain ⟨k1, k2⟩ := and2 h4
            cases (of_decide_eq_true k1)
            cases (of_decide_eq_true k2)
            exact out_val (e_m1 (fun _ => rfl) PySem.F.slot_str_join PySem.F.type_str_join mt_joinD (fun M x h => recv_str (.inl rfl) h) (ha sc W X _ G h5).pe he (not1 h3) h1 h2) rfl
          · obtain ⟨k1, k2⟩ := and2 h4
            cases (of_decide_eq_true k1)
            cases (of_decide_eq_true k2)
            exact out_val (e_m1 (fun _ => rfl) PySem.F.slot_str_split PySem.F.type_str_split mt_splitD (fun M x h => recv_str (.inr (.inl rfl)) h) (ha sc W X _ G h5).pe he (not1 h3) h1 h2) rfl
  · rename_i ea m apos e1 e2 cpos
    obtain ⟨h1, h⟩ := and2 h
    obtain ⟨h2, h⟩ := and2 h
    obtain ⟨h3, h⟩ := and2 h
    obtain ⟨h3', h⟩ := and2 h
    obtain ⟨h4, h⟩ := and2 h
    obtain ⟨h4', h⟩ := and2 h
    obtain ⟨h5, h6⟩ := and2 h
    cases (of_decide_eq_true h4)
    cases (of_decide_eq_true h4')
    cases es with
    | nil => cases h6
    | cons ce1 ces =>
      cases ces with
      | nil => have h6 := (and2 (show (chkE g N ce1 sc e1 && chkEs g N .nil sc [e2]) = true from h6)).2; cases h6
      | cons ce2 ces =>
        cases ces with
        | cons _ _ => have h6 := (and2 (and2 (show (chkE g N ce1 sc e1 && (chkE g N ce2 sc e2 && chkEs g N _ sc [])) = true from h6)).2).2; cases h6
        | nil =>
          obtain ⟨h7, h8⟩ := and2 (show (chkE g N ce1 sc e1 && (chkE g N ce2 sc e2 && chkEs g N .nil sc [])) = true from h6)
          obtain ⟨h8, _⟩ := and2 h8
          exact out_val (e_get2 G.un1 (ha sc W X _ G h5).pe (hs.1 sc W X e1 G h7).pe (hs.2.1 sc W X e2 G h8).pe (not1 h3) (not1 h3') h1 h2) rfl
  · cases h
mutual
theorem sndE : ∀ ce : CE, IHE g ca n N ce
  | .var i => c_var
  | .con d => c_con
  | .bin op a b => c_bin (sndE a) (sndE b)
  | .neg a => c_neg (sndE a)
  | .cmp op a b => c_cmp (sndE a) (sndE b)
  | .isN a => c_isN (sndE a)
  | .notN a => c_notN (sndE a)
  | .chain p q a b c => c_chain (sndE a) (sndE b) (sndE c)
  | .and a b => c_and (sndE a) (sndE b)
  | .or a b => c_or (sndE a) (sndE b)
  | .not a => c_not (sndE a)
  | .notV a => c_notV (sndE a)
  | .ite c a b => c_ite (sndE c) (sndE a) (sndE b)
  | .tup es => c_tup (sndEs es)
  | .lst es => c_lst (sndEs es)
  | .lstM es => c_lstM (sndEs es)
  | .dicM ks es => c_dicM (sndD es)
  | .dic0 => fun sc W X e G h => by
    unfold chkE at h
    split at h
    · exact out_val e_dic0 rfl
    · cases h
  | .idx a i => c_idx (sndE a) (sndE i)
  | .idxD a i => c_idxD (sndE a) (sndE i)
  | .inD k a => c_inD (sndE k) (sndE a)
  | .ninD k a => c_ninD (sndE k) (sndE a)
  | .slc a lo hi => c_slc (sndE a) (sndO lo) (sndO hi)
  | .rev a => c_rev (sndE a)
  | .call f es more => c_call (sndEs es)
  | .bi b es => c_bi (sndEs es) (sndA es)
  | .me b a es => c_me (sndE a) (sndA es)
  | .rngL a => c_rngL (sndE a)
  | .rngL2 a b => c_rngL2 (sndE a) (sndE b)
  | .isi a t => c_isi (sndE a)
  | .lc el tg it => c_lc (sndE el) (sndI it)
  | .lcIf el tg it c => c_lcIf (sndE el) (sndI it) (sndE c)
  | .dcIfM k el tg it c => c_dcIf (sndE k) (sndE el) (sndE c)
  | .fmt a => c_fmt (sndE a)
  | .fstr es => c_fstr (sndJ es)
  | .addM a b => c_addM (sndE a) (sndE b)
  | .mkE x a => c_mkE (sndE a)
  | .mkL x a => c_mkL (sndE a)
  | .isE a x t => c_isE (sndE a)
  | .isB a ys => c_isB (sndE a)
  | .lineE a ys => c_lineE (sndE a)
theorem sndA : ∀ ces : CEs, IHA g ca n N ces
  | .nil => True.intro
  | .cons a as => ⟨sndE a, sndA as⟩
theorem sndD : ∀ ces : CEs, IHD g ca n N ces
  | .nil => fun sc W X ks kes es G h => by
    unfold chkD at h
    obtain ⟨h1, h2⟩ := and2 h
    obtain ⟨h2, h3⟩ := and2 h2
    cases ks <;> first | (cases h1; done) | skip
    cases kes <;> first | (cases h2; done) | skip
    cases es <;> first | (cases h3; done) | skip
    exact .nil
  | .cons a as => fun sc W X ks kes es G h => by
    unfold chkD at h
    split at h
    · obtain ⟨h1, h2⟩ := and2 h
      obtain ⟨h2, h3⟩ := and2 h2
      exact .cons h1 (sndE a sc W X _ G h2).pe (sndD as sc W X _ _ _ G h3)
    · cases h
theorem sndJ : ∀ ces : CEs, IHJ g ca n N ces
  | .nil => fun sc W X es G h => by
    cases es with
    | nil => exact .nil
    | cons _ _ => cases h
  | .cons a as => fun sc W X es G h => by
    cases es with
    | nil => cases h
    | cons e er =>
      obtain ⟨h1, h2⟩ := and2 (show (chkE g N a sc e && chkEs g N as sc er) = true from h)
      exact .cons (sndE a sc W X e G h1).pe (sndJ as sc W X er G h2)
theorem sndEs : ∀ ces : CEs, IHEs g ca n N ces
  | .nil => fun sc W X es G hs h => by
    cases es with
    | nil => exact a_nil
    | cons _ _ => cases h
  | .cons a as => fun sc W X es G hs h => by
    cases es with
    | nil => cases h
    | cons e er =>
      obtain ⟨h1, h2⟩ := and2 (show (chkE g N a sc e && chkEs g N as sc er) = true from h)
      obtain ⟨s1, s2⟩ := noStars_cons hs
      exact a_cons s1 (sndE a sc W X e G h1).pe (sndEs as sc W X er G s2 h2)
theorem sndO : ∀ o : CO, IHO g ca n N o
  | .no => fun sc W X e G h => by
    cases e with
    | none => exact o_no
    | some _ => cases h
  | .at a => fun sc W X e G h => by
    cases e with
    | none => cases h
    | some e => exact o_at (sndE a sc W X e G h).pe
theorem sndI : ∀ it : CI, IHI g ca n N it
  | .seq a => ci_seq (sndE a)
  | .rng a => ci_rng (sndE a)
  | .rng2 a b => ci_rng2 (sndE a) (sndE b)
  | .enum a => ci_enum (sndE a)
  | .zip a b => ci_zip (sndE a) (sndE b)
  | .keys i => fun sc W X tg e G h => by cases h
end
end
end Rf
end T_RfSnd
section T_RfSndS
set_option Elab.async false
set_option linter.all false
set_option maxRecDepth 100000
set_option maxHeartbeats 1000000
/-! Rf: the checker and what it promises: statements -/
namespace Rf
open PySem PySem.Spec PyProof.Rows L2
def swB (sc scope : Scope) (y : Str) (py pos : Pos) : Bool := decide (sc.names.lookup y = some .local) && (py.line == pos.line && !(scope.names.any fun (n, k) => n == y && (k == .local || k == .cell)))
/-- a value that is stored into a name -/
def chkV (g : Gi) (N : List Str) (sc : Scope) (ce : CE) (e : Expr) : Bool := (!isCompE e || (match e with | .ListComp _ _ _ _ => true | .DictComp _ _ _ _ _ => true | _ => false)) && chkE g N ce sc e
def isLoc (sc : Scope) (x : Str) : Bool := decide (sc.names.lookup x = some .local)
/-- an assignment to several targets -/
def chkPar (g : Gi) (N : List Str) (sc : Scope) (tg : Tg) (ce : CE) (ts : List Expr) (e : Expr) : Bool :=
  match e with
  | .Tuple vs _ _ =>
    if (!(ts.length == 2 || ts.length == 3) || vs.length != ts.length) || ((ts.any fun t => noLoc sc t) || vs.all (foldedForSure 8)) then true else
    match ts, vs, tg, ce with
    | [.Name x px, .Name y py], [a, b], .tp (.cons (.nm j) (.cons (.nm k) .nil)), .tup _ =>
      (py.line == px.line) && (!decide (x = y) && (!decide (j = k) && !(constantsAlone 8 a && constantsAlone 8 b)))
    | [.Name x px, .Name y py, .Name z pz], [a, b, c], .tp (.cons (.nm j) (.cons (.nm k) (.cons (.nm l) .nil))), .tup _ =>
      (py.line == px.line) && ((pz.line == px.line) && (!decide (x = y) && (!decide (x = z) && (!decide (y = z) && (!decide (j = k) && (!decide (j = l) && (!decide (k = l) && !(constantsAlone 8 a && (constantsAlone 8 b && constantsAlone 8 c)))))))))
    | _, _, _, _ => false
  | _ => true
/-- a constant as it is written -/
def konB (d : D) : Expr → Bool
  | .Constant .none _ _ => match d with | .non => true | _ => false
  | .Constant (.bool b) _ _ => match d with | .bl c => decide (b = c) | _ => false
  | .Constant (.int i) _ _ => match d with | .int j => decide (i = j) | _ => false
  | .Constant (.str s) _ _ => match d with | .str z => decide (s = z) | _ => false
  | _ => false
def chkH (N : List Str) (sc : Scope) : CH → Stmt → Bool
  | .ret d, st => match st with
    | .Return (some e) _ => konB d e
    | _ => false
  | .set j d, st => match st with
    | .Assign [.Name y _] e _ => decide (N[j]? = some y) && (isLoc sc y && konB d e)
    | _ => false
def chkHs (g : Gi) (N : List Str) (sc : Scope) : List (Nat × List Nat × CH) → List ExceptHandler → Bool
  | [], hs => hs.isEmpty
  | (k, cs, h) :: r, hs => match hs with
    | .ExceptHandler (some (.Name x _)) none [st] _ :: hs => glB sc x && (ndb x && (decide (g.clsN[k]? = some x) && (decide (g.exms[k]? = some cs) && (chkH N sc h st && chkHs g N sc r hs))))
    | _ => false
def chkSD (g : Gi) (N : List Str) (sc : Scope) : CEs → CEs → List Expr → Bool
  | .nil, .nil, es => es.isEmpty
  | .cons co cos, .cons ci cis, es => match es with
    | .Subscript o i _ :: es => !isSlice i && (chkE g N co sc o && (chkE g N ci sc i && chkSD g N sc cos cis es))
    | _ => false
  | _, _, _ => false
mutual
def chkS (g : Gi) (N : List Str) (sc : Scope) : CS → Stmt → Bool
  | .asg tg ce, st => match st with
    | .Assign [.Name x px] e _ => (match tg with
      | .nm j => decide (N[j]? = some x) && (locB sc x && chkV g N sc ce e)
      | _ => false)
    | .Assign [.Tuple ts k p] e _ => !isCompE e && (chkTg N sc tg (.Tuple ts k p) && (chkE g N ce sc e && chkPar g N sc tg ce ts e))
    | _ => false
  | .setI o i ce, st => match st with
    | .Assign [.Subscript oE iE _] e _ => !isCompE e && (!isSlice iE && (chkE g N o sc oE && (chkE g N i sc iE && chkE g N ce sc e)))
    | _ => false
  | .setD o i ce, st => match st with
    | .Assign [.Subscript oE iE _] e _ => !isCompE e && (chkE g N o sc oE && (chkE g N i sc iE && chkE g N ce sc e))
    | _ => false
  | .setDs ts ks ce, st => match st with
    | .Assign [.Tuple es _ _] e _ => !isCompE e && (!es.isEmpty && (chkSD g N sc ts ks es && chkE g N ce sc e))
    | _ => false
  | .app o ce, st => match st with
    | .Expr (.Call (.Attribute oE m apos) [e] [] cpos) _ => decide (m = "append") && (plainRecv oE && ((apos.endLine == cpos.line) && (!isStar e && (chkE g N o sc oE && chkE g N ce sc e))))
    | _ => false
  | .ex ce, st => match st with
    | .Expr e _ => !isCompE e && chkE g N ce sc e
    | _ => false
  | .ret ce, st => match st with
    | .Return (some e) _ => chkE g N ce sc e
    | _ => false
  | .retN, st => match st with
    | .Return none _ => true
    | _ => false
  | .ite c a b, st => match st with
    | .If cE aE bE _ => chkE g N c sc cE && (chkSs g N sc a aE && chkSs g N sc b bE)
    | _ => false
  | .whl c b, st => match st with
    | .While cE bE [] _ => chkE g N c sc cE && chkSs g N sc b bE
    | _ => false
  | .for_ tg it b, st => match st with
    | .For tgE iE bE [] _ => !isSetE iE && (chkI g N it sc tgE iE && (chkTg N sc tg tgE && chkSs g N sc b bE))
    | _ => false
  | .rais k, st => match st with
    | .Raise (some (.Call (.Name x _) [.Constant (.str _) _ _] [] _)) none _ => glB sc x && (ndb x && decide (g.excs[k]? = some x))
    | _ => false
  | .raisL k ce, st => match st with
    | .Raise (some (.Call (.Name x _) [e] [] _)) none _ => glB sc x && (ndb x && (!isStar e && (decide (g.excs.length ≤ k) && (decide ((g.lins[k - g.excs.length]?).map LnC.name = some x) && (decide (("super" : Str) ∈ g.frees) && chkE g N ce sc e)))))
    | _ => false
  | .tryA b k j cs n, st => match st with
    | .Try body [.ExceptHandler (some (.Name x _)) (some nm) [.Return (some (.Attribute (.Name nm2 _) at_ _)) _] _] [] [] _ =>
      chkSs g N sc b body && (decide (N[j]? = some nm) && (decide (nm2 = nm) && (decide (at_ = "line") && (isLoc sc nm && (glB sc x && (ndb x && (decide (g.excs.length ≤ k) && (decide (g.clsN[k]? = some x) && (decide (g.exms[k]? = some cs) && (decide (n = g.clsN.length) && (cs.all (fun c => c == k) && (ndb nm && plainN nm))))))))))))
    | _ => false
  | .tryM b hs n, st => match st with
    | .Try body (h₀ :: hds) [] [] _ => chkSs g N sc b body && (decide (n = g.clsN.length) && chkHs g N sc hs (h₀ :: hds))
    | _ => false
  | .frz _, _ => false
  | .pass, st => match st with
    | .Pass _ => true
    | _ => false
  | .brk, st => match st with
    | .Break _ => true
    | _ => false
  | .cont, st => match st with
    | .Continue _ => true
    | _ => false
def chkSs (g : Gi) (N : List Str) (sc : Scope) : List CS → List Stmt → Bool
  | [], ss => ss.isEmpty
  | s :: r, ss => match s with
    | .frz _ => chkSs g N sc r ss
    | _ => match ss with
      | st :: ss => chkS g N sc s st && chkSs g N sc r ss
      | [] => false
end
structure GoodS (g : Gi) (ca : Nat → Addr) (n : Nat) (N : List Str) (sc : Scope) (W : WX) (X : Cx) : Prop extends Good g ca n N sc W X where
  esc : X.env.scope = sc
  own : PassesOwn (model X.prog X.w) X.A X.env X.xe
  stk : X.stack = X.env :: X.outer
  frm : X.env.frame = some X.env.locals
section
variable {g : Gi} {ca : Nat → Addr} {n : Nat} {N : List Str} {sc : Scope} {W : WX} {X : Cx}
theorem hNd (G : GoodS g ca n N sc W X) : X.N.Nodup := by rw [G.hN]; exact G.nd
theorem slotN (G : GoodS g ca n N sc W X) {j : Nat} {x : Str} (h : decide (N[j]? = some x) = true) : X.N[j]? = some x := by rw [G.hN]; exact of_decide_eq_true h
theorem locS (G : GoodS g ca n N sc W X) {x : Str} (h : sc.names.lookup x = some .local) : X.env.scope.names.lookup x = some .local := by rw [G.esc]; exact h
theorem sw_lc {elt : Expr} {gs : List Comprehension} {scope : Scope} {pos py : Pos} {y : Str} {l : Nat} (G : GoodS g ca n N sc W X) (h : swB sc scope y py pos = false) : swapsWith (.ListComp elt gs scope pos) (some (.Name y py)) l X.env = pure false := by
  have e : swapsWith (.ListComp elt gs scope pos) (some (.Name y py)) l X.env = pure (X.env.blockKind == .function && X.env.kindOf y == some .local && py.line == pos.line && !(scope.names.any fun (n, k) => n == y && (k == .local || k == .cell))) := rfl
  rw [e]
  congr 1
  unfold swB at h
  cases q : (X.env.kindOf y == some .local) with
  | false => simp
  | true =>
    have q1 : X.env.scope.names.lookup y = some .local := beq_iff_eq.mp q
    rw [G.esc] at q1
    rw [q1] at h
    have h : (py.line == pos.line && !(scope.names.any fun (n, k) => n == y && (k == .local || k == .cell))) = false := by simpa using h
    rw [Bool.and_assoc, h, Bool.and_false]
theorem sw_dc {kx vx : Expr} {gs : List Comprehension} {scope : Scope} {pos py : Pos} {y : Str} {l : Nat} (G : GoodS g ca n N sc W X) (h : swB sc scope y py pos = false) : swapsWith (.DictComp kx vx gs scope pos) (some (.Name y py)) l X.env = pure false := by
  have e : swapsWith (.DictComp kx vx gs scope pos) (some (.Name y py)) l X.env = pure (X.env.blockKind == .function && X.env.kindOf y == some .local && py.line == pos.line && !(scope.names.any fun (n, k) => n == y && (k == .local || k == .cell))) := rfl
  rw [e]
  congr 1
  unfold swB at h
  cases q : (X.env.kindOf y == some .local) with
  | false => simp
  | true =>
    have q1 : X.env.scope.names.lookup y = some .local := beq_iff_eq.mp q
    rw [G.esc] at q1
    rw [q1] at h
    have h : (py.line == pos.line && !(scope.names.any fun (n, k) => n == y && (k == .local || k == .cell))) = false := by simpa using h
    rw [Bool.and_assoc, h, Bool.and_false]
theorem ss_name {tg : Tg} {ce : CE} {x : Str} {px pos : Pos} {e : Expr} {j : Nat} (G : GoodS g ca n N sc W X) (h1 : decide (N[j]? = some x) = true) (h2 : locB sc x = true) (h3 : chkV g N sc ce e = true) :
    PS X (.Assign [.Name x px] e pos) (tS X.K ca W (asgS (.nm j) (ev (callN g.tab n) ce))) := by
  obtain ⟨h4, h5⟩ := and2 h3
  obtain ⟨l1, l2⟩ := loc_of G.toGood h2
  have he := (sndE ce sc W X e G.toGood h5).pe
  cases hc : isCompE e with
  | false => exact s_set (hNd G) (slotN G h1) l1 l2 (noswap hc) he
  | true =>
    rw [hc] at h4
    cases e <;> first | (cases h4; done) | skip
    · rename_i ee gs scope cpos
      cases hw : swB sc scope x px cpos with
      | false => exact s_set (hNd G) (slotN G h1) l1 l2 (sw_lc G hw) he
      | true =>
        obtain ⟨w1, w2⟩ := and2 hw
        obtain ⟨w3, w4⟩ := and2 w2
        have hl := locS G (of_decide_eq_true w1)
        have hk := G.ekind
        cases ce <;> first | (cases h5; done) | skip
        · rename_i el tg' it
          unfold chkE at h5
          split at h5
          · rename_i ee tgE iter scope pos q
            cases q
            obtain ⟨g1, k2⟩ := and2 h5
            obtain ⟨g2, k3⟩ := and2 k2
            obtain ⟨g3, k4⟩ := and2 k3
            obtain ⟨g4, g5⟩ := and2 k4
            have ok := blkOk_by g1
            split at g3
            · rename_i i hki
              obtain ⟨z, pz, rfl, hp⟩ := c_keys (tgE := tgE) G.toGood g3
              rw [keysAt_some hki]
              exact s_setLcK G.calm (hNd G) (slotN G h1) hl hk w3 (not1 w4) hp (by rw [G.hN]; exact G.blkOk ok) own_slots (fun s H C cl fp => c_tg (G.blk ok.kind s H C cl fp) g2) (fun s H C cl fp => (sndE el scope WF _ _ (G.blk ok.kind s H C cl fp) g5).pe)
            · exact s_setLc (fc := fun _ M => Rf.ok (.bl true) M) G.calm (hNd G) (slotN G h1) hl hk w3 (not1 w4) (sndI it sc W X _ _ G.toGood g3) (by rw [G.hN]; exact G.blkOk ok) own_slots (fun s H C cl fp => c_tg (G.blk ok.kind s H C cl fp) g2) (fun s H C cl fp => (sndE el scope WF _ _ (G.blk ok.kind s H C cl fp) g5).pe) (not1 g4)
          · cases h5
        · rename_i el tg' it c
          unfold chkE at h5
          split at h5
          · rename_i ee tgE iter ec scope pos q
            cases q
            obtain ⟨g1, k2⟩ := and2 h5
            obtain ⟨g2, k3⟩ := and2 k2
            obtain ⟨g3, k4⟩ := and2 k3
            obtain ⟨g4, k5⟩ := and2 k4
            obtain ⟨g5, g6⟩ := and2 k5
            have ok := blkOk_by g1
            split at g3
            · rename_i i hki
              obtain ⟨z, pz, rfl, hp⟩ := c_keys (tgE := tgE) G.toGood g3
              rw [keysAt_some hki]
              exact s_setLcIfK G.calm (hNd G) (slotN G h1) hl hk w3 (not1 w4) hp (by rw [G.hN]; exact G.blkOk ok) own_slots (fun s H C cl fp => c_tg (G.blk ok.kind s H C cl fp) g2) (fun s H C cl fp => (sndE c scope WF _ _ (G.blk ok.kind s H C cl fp) g6).pt) (fun s H C cl fp => (sndE el scope WF _ _ (G.blk ok.kind s H C cl fp) g5).pe)
            · exact s_setLcIf G.calm (hNd G) (slotN G h1) hl hk w3 (not1 w4) (sndI it sc W X _ _ G.toGood g3) (by rw [G.hN]; exact G.blkOk ok) own_slots (fun s H C cl fp => c_tg (G.blk ok.kind s H C cl fp) g2) (fun s H C cl fp => (sndE c scope WF _ _ (G.blk ok.kind s H C cl fp) g6).pt) (fun s H C cl fp => (sndE el scope WF _ _ (G.blk ok.kind s H C cl fp) g5).pe) (not1 g4)
          · cases h5
    · rename_i ke ee gs scope cpos
      cases hw : swB sc scope x px cpos with
      | false => exact s_set (hNd G) (slotN G h1) l1 l2 (sw_dc G hw) he
      | true =>
        obtain ⟨w1, w2⟩ := and2 hw
        obtain ⟨w3, w4⟩ := and2 w2
        have hl := locS G (of_decide_eq_true w1)
        have hk := G.ekind
        cases ce <;> first | (cases h5; done) | skip
        rename_i k el tg' it c
        unfold chkE at h5
        split at h5
        · rename_i ke ee tgE iter ec scope pos q
          cases q
          obtain ⟨g1, k2⟩ := and2 h5
          obtain ⟨g2, k3⟩ := and2 k2
          obtain ⟨g3, k4⟩ := and2 k3
          obtain ⟨g4, k5⟩ := and2 k4
          obtain ⟨g5, g6⟩ := and2 k5
          have ok := blkOk_by g1
          split at g3
          · rename_i i hki
            obtain ⟨z, pz, rfl, hp⟩ := c_keys (tgE := tgE) G.toGood g3
            rw [keysAt_some hki]
            exact s_setDcIfK G.calm (hNd G) (slotN G h1) hl hk w3 (not1 w4) hp (by rw [G.hN]; exact G.blkOk ok) own_slots (fun s H C cl fp => c_tg (G.blk ok.kind s H C cl fp) g2) (fun s H C cl fp => (sndE c scope WF _ _ (G.blk ok.kind s H C cl fp) g6).pt) (fun s H C cl fp => (sndE k scope WF _ _ (G.blk ok.kind s H C cl fp) g4).pe) (fun s H C cl fp => (sndE el scope WF _ _ (G.blk ok.kind s H C cl fp) g5).pe)
          · cases g3
        · cases h5
theorem noloc_of {sc : Scope} {x : Str} {p : Pos} (h : noLoc sc (.Name x p) = false) : sc.names.lookup x = some .local := by
  have h : (!decide (sc.names.lookup x = some .local)) = false := h
  simpa using h
theorem ss_tup {tg : Tg} {ce : CE} {ts : List Expr} {k : Nat} {p pos : Pos} {e : Expr} (G : GoodS g ca n N sc W X) (h1 : isCompE e = false) (h2 : chkTg N sc tg (.Tuple ts k p) = true) (h3 : chkE g N ce sc e = true) (h4 : chkPar g N sc tg ce ts e = true) :
    PS X (.Assign [.Tuple ts k p] e pos) (tS X.K ca W (asgS tg (ev (callN g.tab n) ce))) := by
  have he := (sndE ce sc W X e G.toGood h3).pe
  have hg := c_tg G.toGood h2
  cases q : isTupX e with
  | false => exact s_asg h1 rfl (sw_noTup q) he hg
  | true =>
    cases e <;> first | (cases q; done) | skip
    rename_i vs k2 p2
    unfold chkPar at h4
    split at h4
    · rename_i vs' k2' p2' e'
      cases e'
      split at h4
      · rename_i hc
        refine s_asg h1 rfl ?_ he hg
        rcases Bool.or_eq_true_iff.mp hc with hc | hc
        · exact sw_len hc
        · rcases Bool.or_eq_true_iff.mp hc with hc | hc
          · exact sw_some (by rw [G.esc]; exact hc)
          · exact sw_fold hc
      · rename_i hc
        have hnf : ((!(ts.length == 2 || ts.length == 3) || vs.length != ts.length) || ((ts.any fun t => noLoc sc t) || vs.all (foldedForSure 8))) = false := by simpa using hc
        clear hc
        have hnf := (Bool.or_eq_false_iff.mp hnf).2
        have hn := (Bool.or_eq_false_iff.mp hnf).1
        have hf := (Bool.or_eq_false_iff.mp hnf).2
        clear hnf
        split at h4
        · rename_i x px y py a b j k es
          obtain ⟨g1, g2⟩ := and2 h4
          obtain ⟨g2, g3⟩ := and2 g2
          obtain ⟨g3, g4⟩ := and2 g3
          have nx : noLoc sc (.Name x px) = false ∧ noLoc sc (.Name y py) = false := by simpa using hn
          have lx := noloc_of nx.1
          have ly := noloc_of nx.2
          unfold chkE at h3
          obtain ⟨g5, g6⟩ := and2 (show (noStars [a, b] && chkEs g N es sc [a, b]) = true from h3)
          obtain ⟨st1, st2⟩ := noStars_cons g5
          obtain ⟨st2, _⟩ := noStars_cons st2
          unfold chkTg at h2
          obtain ⟨t1, t2⟩ := and2 (show (decide _ && (!isStarT (.Name x px) && chkTg N sc (.nm j) (.Name x px) && (!isStarT (.Name y py) && chkTg N sc (.nm k) (.Name y py) && chkTgs N sc .nil []))) = true from h2)
          obtain ⟨t3, t4⟩ := and2 t2
          obtain ⟨_, t3⟩ := and2 t3
          obtain ⟨t4, _⟩ := and2 t4
          obtain ⟨_, t4⟩ := and2 t4
          have s1 := slotN G (and2 (show (decide (N[j]? = some x) && locB sc x) = true from t3)).1
          have s2 := slotN G (and2 (show (decide (N[k]? = some y) && locB sc y) = true from t4)).1
          exact s_par G.calm (hNd G) s1 s2 (of_decide_eq_false (not1 g3)) (locS G lx) (locS G ly) (sw_pair G.ekind (locS G lx) (locS G ly) g1 (of_decide_eq_false (not1 g2)) st1 st2 (by simpa using hf) (not1 g4)) (sndEs es sc W X _ G.toGood g5 g6)
        · rename_i x px y py z pz a b c j k l es
          obtain ⟨g1, g2⟩ := and2 h4
          obtain ⟨g2, g3⟩ := and2 g2
          obtain ⟨g3, g4⟩ := and2 g3
          obtain ⟨g4, g5⟩ := and2 g4
          obtain ⟨g5, g6⟩ := and2 g5
          obtain ⟨g6, g7⟩ := and2 g6
          obtain ⟨g7, g8⟩ := and2 g7
          obtain ⟨g8, g9⟩ := and2 g8
          have nx : noLoc sc (.Name x px) = false ∧ noLoc sc (.Name y py) = false ∧ noLoc sc (.Name z pz) = false := by simpa using hn
          have lx := noloc_of nx.1
          have ly := noloc_of nx.2.1
          have lz := noloc_of nx.2.2
          unfold chkE at h3
          obtain ⟨u5, u6⟩ := and2 (show (noStars [a, b, c] && chkEs g N es sc [a, b, c]) = true from h3)
          obtain ⟨st1, st2⟩ := noStars_cons u5
          obtain ⟨st2, st3⟩ := noStars_cons st2
          obtain ⟨st3, _⟩ := noStars_cons st3
          unfold chkTg at h2
          obtain ⟨t1, t2⟩ := and2 (show (decide _ && (!isStarT (.Name x px) && chkTg N sc (.nm j) (.Name x px) && (!isStarT (.Name y py) && chkTg N sc (.nm k) (.Name y py) && (!isStarT (.Name z pz) && chkTg N sc (.nm l) (.Name z pz) && chkTgs N sc .nil [])))) = true from h2)
          obtain ⟨t3, t4⟩ := and2 t2
          obtain ⟨_, t3⟩ := and2 t3
          obtain ⟨t4, t5⟩ := and2 t4
          obtain ⟨_, t4⟩ := and2 t4
          obtain ⟨t5, _⟩ := and2 t5
          obtain ⟨_, t5⟩ := and2 t5
          have s1 := slotN G (and2 (show (decide (N[j]? = some x) && locB sc x) = true from t3)).1
          have s2 := slotN G (and2 (show (decide (N[k]? = some y) && locB sc y) = true from t4)).1
          have s3 := slotN G (and2 (show (decide (N[l]? = some z) && locB sc z) = true from t5)).1
          exact s_par3 G.calm (hNd G) s1 s2 s3 (of_decide_eq_false (not1 g6)) (of_decide_eq_false (not1 g7)) (of_decide_eq_false (not1 g8)) (locS G lx) (locS G ly) (locS G lz)
            (sw_trip G.ekind (locS G lx) (locS G ly) (locS G lz) g1 g2 (of_decide_eq_false (not1 g3)) (of_decide_eq_false (not1 g4)) (of_decide_eq_false (not1 g5)) st1 st2 st3 (by simpa using hf) (not1 g9)) (sndEs es sc W X _ G.toGood u5 u6)
        · cases h4
    · rename_i hx
      exact absurd rfl (hx vs k2 p2)
abbrev IHS (g : Gi) (ca : Nat → Addr) (n : Nat) (N : List Str) (s : CS) : Prop := ∀ (sc : Scope) (W : WX) (X : Cx) (st : Stmt), GoodS g ca n N sc W X → chkS g N sc s st = true → PS X st (tS X.K ca W (ex (callN g.tab n) s))
abbrev IHSs (g : Gi) (ca : Nat → Addr) (n : Nat) (N : List Str) (s : List CS) : Prop := ∀ (sc : Scope) (W : WX) (X : Cx) (st : List Stmt), GoodS g ca n N sc W X → chkSs g N sc s st = true → PSs X st (tS X.K ca W (exs (callN g.tab n) s))
theorem st_asg {tg : Tg} {ce : CE} : IHS g ca n N (.asg tg ce) := by
  intro sc W X st G h
  unfold chkS at h
  split at h
  · split at h
    · obtain ⟨h1, h2⟩ := and2 h
      obtain ⟨h2, h3⟩ := and2 h2
      exact ss_name (tg := .nm 0) G h1 h2 h3
    · cases h
  · obtain ⟨h1, h2⟩ := and2 h
    obtain ⟨h2, h3⟩ := and2 h2
    obtain ⟨h3, h4⟩ := and2 h3
    exact ss_tup G (not1 h1) h2 h3 h4
  · cases h
theorem st_setI {o i ce : CE} : IHS g ca n N (.setI o i ce) := by
  intro sc W X st G h
  unfold chkS at h
  split at h
  · obtain ⟨h1, h⟩ := and2 h
    obtain ⟨h2, h⟩ := and2 h
    obtain ⟨h3, h⟩ := and2 h
    obtain ⟨h4, h5⟩ := and2 h
    exact s_setI (not1 h1) (not1 h2) (sndE o sc W X _ G.toGood h3).pe (sndE i sc W X _ G.toGood h4).pe (sndE ce sc W X _ G.toGood h5).pe
  · cases h
theorem st_setD {o i ce : CE} : IHS g ca n N (.setD o i ce) := by
  intro sc W X st G h
  unfold chkS at h
  split at h
  · obtain ⟨h1, h⟩ := and2 h
    obtain ⟨h3, h⟩ := and2 h
    obtain ⟨h4, h5⟩ := and2 h
    exact s_setD G.un1 (not1 h1) (sndE o sc W X _ G.toGood h3).pe (sndE i sc W X _ G.toGood h4).pe (sndE ce sc W X _ G.toGood h5).pe
  · cases h
theorem st_app {o ce : CE} : IHS g ca n N (.app o ce) := by
  intro sc W X st G h
  unfold chkS at h
  split at h
  · obtain ⟨h1, h⟩ := and2 h
    obtain ⟨h2, h⟩ := and2 h
    obtain ⟨h3, h⟩ := and2 h
    obtain ⟨h4, h⟩ := and2 h
    obtain ⟨h5, h6⟩ := and2 h
    cases (of_decide_eq_true h1)
    exact s_app h2 h3 (not1 h4) (sndE o sc W X _ G.toGood h5).pe (sndE ce sc W X _ G.toGood h6).pe
  · cases h
theorem st_ex {ce : CE} : IHS g ca n N (.ex ce) := by
  intro sc W X st G h
  unfold chkS at h
  split at h
  · obtain ⟨h1, h2⟩ := and2 h
    exact s_ex (not1 h1) (sndE ce sc W X _ G.toGood h2).pe
  · cases h
theorem st_ret {ce : CE} : IHS g ca n N (.ret ce) := by
  intro sc W X st G h
  unfold chkS at h
  split at h
  · exact s_ret (sndE ce sc W X _ G.toGood h).pe
  · cases h
theorem st_rais {k : Nat} : IHS g ca n N (.rais k) := by
  intro sc W X st G h
  unfold chkS at h
  split at h
  · obtain ⟨h1, h⟩ := and2 h
    obtain ⟨h2, h3⟩ := and2 h
    obtain ⟨q1, q2, q3, q4, q5⟩ := G.facts.exc _ _ (of_decide_eq_true h3)
    exact s_rais G.calm G.tk PySem.F.excBase_ValueError q3 q1 q2 (raises_own q4 q5) (G.gl h1) (ndb_of h2)
  · cases h
theorem GoodS.tr (G : GoodS g ca n N sc W X) {W' : WX} {pn : List (Addr × Obj)} {xe : Value → Shared → Prop} (tk : Takes (X.tr pn xe) W') (own : PassesOwn (model X.prog X.w) X.A X.env xe) : GoodS g ca n N sc W' (X.tr pn xe) where
  hN := G.hN
  nd := G.nd
  keep := G.keep
  fre := G.fre
  ekind := G.ekind
  calm := G.calm
  room := G.room
  tk := tk
  facts := G.facts
  kind := G.kind
  fnc := G.fnc
  esc := G.esc
  own := own
  stk := G.stk
  frm := G.frm
theorem st_raisL {k : Nat} {ce : CE} : IHS g ca n N (.raisL k ce) := by
  intro sc W X st G h
  unfold chkS at h
  split at h
  · rename_i x px ex q1 q2
    obtain ⟨h1, h⟩ := and2 h
    obtain ⟨h2, h⟩ := and2 h
    obtain ⟨h3, h⟩ := and2 h
    obtain ⟨h4, h⟩ := and2 h
    obtain ⟨h5, h⟩ := and2 h
    obtain ⟨h6, h7⟩ := and2 h
    have h4 := of_decide_eq_true h4
    have h5 := of_decide_eq_true h5
    cases q : g.lins[k - g.excs.length]? with
    | none => rw [q] at h5; cases h5
    | some ln =>
      rw [q] at h5
      have h5 : ln.name = x := Option.some.inj h5
      obtain ⟨fI, T⟩ := G.facts.lin _ _ q
      rw [show g.excs.length + (k - g.excs.length) = k by omega] at T
      have hx : g.clsN[k]? = some x := by
        unfold Gi.clsN
        rw [List.getElem?_append_right h4, List.getElem?_map, q]
        exact congrArg some h5
      exact s_raisL G.calm G.tk T (G.facts.ptop (fun z => by rw [z] at q; cases q)) (G.facts.free _ (of_decide_eq_true h6)) (G.facts.cls _ _ hx) G.room (G.gl h1) (ndb_of h2) (not1 h3) (sndE ce sc W X _ G.toGood h7).pe
  · cases h
theorem pe_kon {X : Cx} {W : WX} {d : D} {e : Expr} (h : konB d e = true) : PE X e (tE X.K ca W fun _ M => ok d M) := by
  unfold konB at h
  split at h
  · cases d <;> first | (cases h; done) | skip
    exact e_con pe_non fun _ _ => .non
  · cases d <;> first | (cases h; done) | skip
    cases (of_decide_eq_true h : _ = _)
    exact e_con pe_bl fun _ _ => .bl _
  · cases d <;> first | (cases h; done) | skip
    cases (of_decide_eq_true h : _ = _)
    exact e_con pe_int fun _ _ => .int _
  · cases d <;> first | (cases h; done) | skip
    cases (of_decide_eq_true h : _ = _)
    exact e_con pe_str fun _ _ => .str _
  · cases h
theorem kon_comp {d : D} {e : Expr} (h : konB d e = true) : isCompE e = false := by
  unfold konB at h
  split at h <;> first | rfl | cases h
theorem ch_of (G : GoodS g ca n N sc W X) {hd : CH} {st : Stmt} (h : chkH N sc hd st = true) {a : Addr} {pn : List (Addr × Obj)} : PSs (X.suite a pn) [st] (tCH X.K ca WF hd) := by
  unfold chkH at h
  split at h
  · split at h
    · exact pss_one (s_ret (X := X.suite a pn) (pe_kon h))
    · cases h
  · split at h
    · obtain ⟨h1, h⟩ := and2 h
      obtain ⟨h2, h3⟩ := and2 h
      have hl := locS G (of_decide_eq_true h2)
      have hn : X.N.Nodup := hNd G
      have hs : X.N[_]? = some _ := slotN G h1
      exact pss_one (s_set (X := X.suite a pn) hn hs (.inl hl) (.inr hl) (noswap (kon_comp h3)) (pe_kon h3))
    · cases h
theorem hs_of (G : GoodS g ca n N sc W X) : ∀ {hs : List (Nat × List Nat × CH)} {hds : List ExceptHandler}, chkHs g N sc hs hds = true → HdsOk X hds (hlist ca X.K hs) ∧ ∀ h ∈ hs, ExmOk X.K ca g.clsN.length h.1 h.2.1
  | [], hds, h => by
    cases hds with
    | nil => exact ⟨.nil, fun _ h => nomatch h⟩
    | cons _ _ => cases h
  | (k, cs, hd) :: r, hds, h => by
    unfold chkHs at h
    split at h
    · obtain ⟨h1, h⟩ := and2 h
      obtain ⟨h2, h⟩ := and2 h
      obtain ⟨h3, h⟩ := and2 h
      obtain ⟨h4, h⟩ := and2 h
      obtain ⟨h5, h6⟩ := and2 h
      obtain ⟨i1, i2⟩ := hs_of G h6
      refine ⟨.cons ⟨G.gl h1, ndb_of h2, .inl (G.facts.cls _ _ (of_decide_eq_true h3))⟩ (fun a oe cls d pn hz hf => ch_of G h5) i1, fun h hh => ?_⟩
      rcases List.mem_cons.mp hh with rfl | hh
      · exact G.facts.exm _ _ (of_decide_eq_true h4)
      · exact i2 h hh
    · cases h
theorem st_tryM {b : List CS} {hs : List (Nat × List Nat × CH)} {m : Nat} (hb : IHSs g ca n N b) : IHS g ca n N (.tryM b hs m) := by
  intro sc W X st G h
  unfold chkS at h
  split at h
  · obtain ⟨h1, h⟩ := and2 h
    obtain ⟨h2, h3⟩ := and2 h
    cases (of_decide_eq_true h2)
    obtain ⟨i1, i2⟩ := hs_of G h3
    exact s_tryM G.stk G.frm G.tk i2 i1 fun W' pn xe tk own => hb sc W' _ _ (G.tr tk own) h1
  · cases h
theorem st_tryA {b : List CS} {k j m : Nat} {cs : List Nat} (hb : IHSs g ca n N b) : IHS g ca n N (.tryA b k j cs m) := by
  intro sc W X st G h
  unfold chkS at h
  split at h
  · rename_i body x np nm nm2 p1 at_ p2 p3 pos' pos
    obtain ⟨h1, h⟩ := and2 h
    obtain ⟨h2, h⟩ := and2 h
    obtain ⟨h3, h⟩ := and2 h
    obtain ⟨h4, h⟩ := and2 h
    obtain ⟨h5, h⟩ := and2 h
    obtain ⟨h6, h⟩ := and2 h
    obtain ⟨h7, h⟩ := and2 h
    obtain ⟨h8, h⟩ := and2 h
    obtain ⟨h9, h⟩ := and2 h
    obtain ⟨h10, h⟩ := and2 h
    obtain ⟨h11, h⟩ := and2 h
    obtain ⟨h12, h⟩ := and2 h
    obtain ⟨h13, h14⟩ := and2 h
    cases (of_decide_eq_true h3)
    cases (of_decide_eq_true h4)
    cases (of_decide_eq_true h11)
    have h8 := of_decide_eq_true h8
    have h9 := of_decide_eq_true h9
    obtain ⟨h15, h16⟩ := and2 h14
    have hj : k - g.excs.length < g.lins.length := by
      have z : k < g.clsN.length := by
        rcases Nat.lt_or_ge k g.clsN.length with h | h
        · exact h
        · rw [List.getElem?_eq_none h] at h9; cases h9
      unfold Gi.clsN at z
      rw [List.length_append, List.length_map] at z
      omega
    obtain ⟨fI, T⟩ := G.facts.lin _ _ (List.getElem?_eq_getElem hj)
    rw [show g.excs.length + (k - g.excs.length) = k by omega] at T
    refine s_tryA G.stk G.frm (hNd G) (slotN G h2) (locS G (of_decide_eq_true h5)) ⟨G.gl h6, ndb_of h7, .inl (G.facts.cls _ _ h9)⟩ G.tk ⟨T.ga, T.gg, T.exC, T.hdC⟩ T.noN (G.facts.exm _ _ (of_decide_eq_true h10)) (fun c hc _ => ?_) (not1 h15) (not1 h16) fun W' pn xe tk own => hb sc W' _ _ (G.tr tk own) h1
    have hc : c ∈ cs := List.contains_iff_mem.mp hc
    rw [beq_iff_eq.mp (List.all_eq_true.mp h12 c hc)]
  · cases h
theorem sd_of : ∀ {cos cis : CEs} {es : List Expr}, Good g ca n N sc W X → chkSD g N sc cos cis es = true → SD X ca W (callN g.tab n) es cos cis
  | .nil, .nil, es, G, h => by
    cases es <;> first | (cases h; done) | skip
    exact .nil
  | .cons co cos, .cons ci cis, es, G, h => by
    unfold chkSD at h
    split at h
    · obtain ⟨h1, h⟩ := and2 h
      obtain ⟨h2, h⟩ := and2 h
      obtain ⟨h3, h4⟩ := and2 h
      exact .cons (not1 h1) (sndE co sc W X _ G h2).pe (sndE ci sc W X _ G h3).pe (sd_of G h4)
    · cases h
  | .nil, .cons _ _, _, _, h => by cases h
  | .cons _ _, .nil, _, _, h => by cases h
theorem st_setDs {ts ks : CEs} {ce : CE} : IHS g ca n N (.setDs ts ks ce) := by
  intro sc W X st G h
  unfold chkS at h
  split at h
  · rename_i es k p e pos
    obtain ⟨h1, h⟩ := and2 h
    obtain ⟨h2, h⟩ := and2 h
    obtain ⟨h3, h4⟩ := and2 h
    exact s_setDs G.un1 G.calm (sd_of G.toGood h3) (fun z => by rw [z] at h2; cases h2) (not1 h1) (sndE ce sc W X _ G.toGood h4).pe
  · cases h
mutual
theorem sndS : ∀ s : CS, IHS g ca n N s
  | .asg tg ce => st_asg
  | .setI o i ce => st_setI
  | .setD o i ce => st_setD
  | .setDs ts ks ce => st_setDs
  | .app o ce => st_app
  | .ex ce => st_ex
  | .ret ce => st_ret
  | .retN => fun sc W X st G h => by
    unfold chkS at h
    split at h
    · exact s_retN
    · cases h
  | .ite c a b => fun sc W X st G h => by
    unfold chkS at h
    split at h
    · obtain ⟨h1, h⟩ := and2 h
      obtain ⟨h2, h3⟩ := and2 h
      exact s_ite (sndE c sc W X _ G.toGood h1).pt (sndSs a sc W X _ G h2) (sndSs b sc W X _ G h3)
    · cases h
  | .whl c b => fun sc W X st G h => by
    unfold chkS at h
    split at h
    · obtain ⟨h1, h2⟩ := and2 h
      exact s_whl G.own (sndE c sc W X _ G.toGood h1).pt (sndSs b sc W X _ G h2)
    · cases h
  | .for_ tg it b => fun sc W X st G h => by
    unfold chkS at h
    split at h
    · obtain ⟨h1, h⟩ := and2 h
      obtain ⟨h2, h⟩ := and2 h
      obtain ⟨h3, h4⟩ := and2 h
      exact s_for G.own G.calm (not1 h1) (sndI it sc W X _ _ G.toGood h2) (c_tg G.toGood h3) (sndSs b sc W X _ G h4)
    · cases h
  | .rais k => st_rais
  | .raisL k ce => st_raisL
  | .tryA b k j cs m => st_tryA (sndSs b)
  | .tryM b hs m => st_tryM (sndSs b)
  | .frz i => fun sc W X st G h => by cases h
  | .pass => fun sc W X st G h => by
    unfold chkS at h
    split at h
    · exact s_pass
    · cases h
  | .brk => fun sc W X st G h => by
    unfold chkS at h
    split at h
    · exact s_brk
    · cases h
  | .cont => fun sc W X st G h => by
    unfold chkS at h
    split at h
    · exact s_cont
    · cases h
theorem sndSs : ∀ s : List CS, IHSs g ca n N s
  | [] => fun sc W X st G h => by
    cases st with
    | nil => exact ss_nil
    | cons _ _ => cases h
  | s :: r => fun sc W X st G h => by
    have main : ∀ st, (match st with | st :: ss => chkS g N sc s st && chkSs g N sc r ss | [] => false) = true → PSs X st (tS X.K ca W (thenS (ex (callN g.tab n) s) (exs (callN g.tab n) r))) := fun st h => by
      cases st with
      | nil => cases h
      | cons st ss =>
        obtain ⟨h1, h2⟩ := and2 h
        exact ss_cons (sndS s sc W X st G h1) (sndSs r sc W X ss G h2)
    cases s <;> first | exact main st h | exact ss_frz (sndSs r sc W X st G h)
end
end
end Rf
end T_RfSndS
section T_RfFn
set_option Elab.async false
set_option linter.all false
set_option maxRecDepth 100000
set_option maxHeartbeats 1000000
/-! Rf: defs, all levels at once -/
namespace Rf
open PySem PySem.Spec PyProof.Rows L2
/-- a def's names -/
def scB (N ps : List Str) (sc : Scope) : Bool :=
  decide (sc.kind = .function) && (!sc.isCoroutine && (!sc.isGenerator && (decide N.Nodup && (decide (N.take ps.length = ps) && (ps.all (fun x => decide (sc.names.lookup x = some .local ∨ sc.names.lookup x = some .cell)) && sc.names.all (fun y => !decide (y.2 = .free)))))))
theorem fnScope_of {N ps : List Str} {sc : Scope} (h : scB N ps sc = true) : FnScope N ps sc := by
  obtain ⟨h1, h⟩ := and2 h
  obtain ⟨h2, h⟩ := and2 h
  obtain ⟨h3, h⟩ := and2 h
  obtain ⟨h4, h⟩ := and2 h
  obtain ⟨h5, h⟩ := and2 h
  obtain ⟨h6, h7⟩ := and2 h
  exact ⟨of_decide_eq_true h1, not1 h2, not1 h3, of_decide_eq_true h4, of_decide_eq_true h5, fun x hx => of_decide_eq_true (List.all_eq_true.mp h6 x hx), fun y hy => of_decide_eq_false (not1 (List.all_eq_true.mp h7 y hy))⟩
def chkF (g : Gi) (cf : CF) : Bool := scB cf.N cf.ps cf.scope && chkSs g cf.N cf.scope cf.core cf.stmts
def chkAll (g : Gi) : Bool := g.fns.all fun cf => chkF g cf
/-- what stands behind the top, without a level -/
structure FactsB (g : Gi) (ca : Nat → Addr) (K : PySem.W.Frag) (mg : Str → Option Value) : Prop where
  cls : ∀ k x, g.clsN[k]? = some x → mg x = some (.ref (ca k))
  exm : ∀ k cs, g.exms[k]? = some cs → ExmOk K ca g.clsN.length k cs
  lin : ∀ j x, g.lins[j]? = some x → ∃ fI, PySem.LineX.LineTxt g.file K (ca (g.excs.length + j)) fI
  cag : ∀ k x, g.clsN[k]? = some x → ca k = He.ga K x
  vals : ∀ y ∈ g.vals, XvC K (He.ga K y) ∧ PySem.W.kitOne K (.ref (He.ga K y)) (.type "ValueError") = some true
  kits : ∀ p ∈ g.kits, PySem.W.kitOne K (.ref (He.ga K p.1)) (.ref (He.ga K p.2.1)) = some p.2.2
  free : ∀ x ∈ g.frees, mg x = none
  txt : ∀ p ∈ g.txts, ∃ u, mg p.1 = some u ∧ RelV (.str p.2) u
  num : ∀ p ∈ g.nums, ∃ u, mg p.1 = some u ∧ RelV (.int p.2) u
  tup : ∀ p ∈ g.tups, ∃ v u, mg p.1 = some u ∧ RelV v u ∧ ∀ ph F, Rel K ph F v p.2
  exc : ∀ k x, g.excs[k]? = some x → mg x = some (.ref (ca k)) ∧ PySem.W.keepIn K (.ref (ca k)) = true ∧ PySem.W.excIn K (ca k) [.type "ValueError", .type "Exception", .type "BaseException", .type "object"] "ValueError.__new__" = true ∧
    PySem.W.subIn K (.ref (ca k)) (.type "BaseException") = some true ∧ PySem.W.typeIn K (.ref (ca k)) = some (.type "type")
  fn : ∀ (f : Nat) (cf : CF), g.fns[f]? = some cf → ∃ (adr : Addr) (fd : FuncData), FunD K cf.name cf.name cf.params cf.stmts cf.scope (cf.dfl.map dvV) [] adr fd ∧ mg cf.name = some (.ref adr) ∧
    ∀ b ∈ cf.binds, ∃ dvs ds, Vals dvs ds ∧ Binds K fd cf.ps ds ∧ ∀ p F, Rels K p F dvs b.2
section
variable {K : PySem.W.Frag} {p : Ph} {F : Hp} {N : List Str}
theorem re_start {vs : List V} {ds : List D} (r : Rels K p F vs ds) {m : Nat} : RE K p F (ds.map some ++ List.replicate (m - ds.length) none) (vs.map some ++ List.replicate (m - vs.length) none) := by
  refine ⟨?_, fun i d e => ?_⟩
  · rw [List.length_append, List.length_append, List.length_map, List.length_map, List.length_replicate, List.length_replicate, r.length]
  · by_cases hi : i < ds.length
    · rw [List.getElem?_append_left (by rw [List.length_map]; exact hi), List.getElem?_map] at e
      cases q : ds[i]? with
      | none => rw [q] at e; cases e
      | some d' =>
        rw [q] at e
        have e : d' = d := Option.some.inj (Option.some.inj e)
        subst e
        obtain ⟨v, h1, h2⟩ := r.get q
        refine ⟨v, ?_, h2⟩
        rw [List.getElem?_append_left (by rw [List.length_map, r.length]; exact hi), List.getElem?_map, h1]
        rfl
    · rw [List.getElem?_append_right (by rw [List.length_map]; omega)] at e
      rw [List.getElem?_replicate] at e
      split at e <;> cases e
/-- back below the entry's cells -/
theorem step_back {p' : Ph} {F' H H' : Hp} (s : Step p F H p' F' H') : Step p F H p F' H' where
  ph := fun _ _ h => h
  lst := s.lst
  tup := s.tup
  dk := s.dk
  fz := s.fz
  et := s.et
  xd := s.xd
  keep := s.keep
  there := s.there
  new := fun _ _ h => .inl h
  fnew := s.fnew
  fk := s.fk
theorem ph_back {p' : Ph} {H : Hp} {M : Mem} (rm : RM K p F M H) (l : ∀ n a, p n = some a → p' n = some a) : ∀ m a, m < M.length → p' m = some a → p m = some a := fun m a hm h => by
  obtain ⟨b, hb⟩ := (rm.dom m).mp hm
  have := l m b hb
  rw [h] at this
  cases this
  exact hb
end
section
variable {g : Gi} {ca : Nat → Addr} {P : Program} {w : World} {K : PySem.W.Frag} {mg : Str → Option Value} {base : Heap}
theorem sp_len {n f : Nat} {cf : CF} (hf : g.fns[f]? = some cf) : ∀ vs H Q E, spF K ca (callN g.tab n) f vs H Q E → vs.length = cf.ps.length := by
  intro vs H Q E ⟨p, F, M, ds, r, rm, rs, e, h⟩
  cases n with
  | zero => cases e
  | succ n =>
    have ht : g.tab f = some cf.fd := by unfold Gi.tab; rw [hf]; rfl
    have e : (match g.tab f with
      | some fd => runF (callN g.tab n) fd ds M
      | none => none) = some r := e
    rw [ht] at e
    have e : runF (callN g.tab n) cf.fd ds M = some r := e
    unfold runF at e
    split at e
    · rename_i hl
      rw [rs.length]
      exact hl
    · cases e
theorem mkFacts {n : Nat} (hp : g.lins ≠ [] → P.main.file = g.file ∧ (P.main.scope.names.lookup ("super" : Str)).isSome = false) (B : FactsB g ca K mg)
    (fn : ∀ (f : Nat) (cf : CF), g.fns[f]? = some cf → ∃ (adr : Addr) (fd : FuncData), FnOk P w K mg base (L2.CX P w) n adr fd cf.ps (spF K ca (callN g.tab n) f) ∧ mg cf.name = some (.ref adr) ∧ PySem.W.keepIn K (.ref adr) = true ∧
      FunD K cf.name cf.name cf.params cf.stmts cf.scope (cf.dfl.map dvV) [] adr fd ∧ ∀ b ∈ cf.binds, ∃ dvs ds, Vals dvs ds ∧ Binds K fd cf.ps ds ∧ ∀ p F, Rels K p F dvs b.2) : Facts g ca n P w K mg base where
  free := B.free
  txt := B.txt
  num := B.num
  tup := B.tup
  exc := B.exc
  fn := fn
  cls := B.cls
  exm := B.exm
  lin := fun j x hj => by
    obtain ⟨fI, T⟩ := B.lin j x hj
    exact ⟨fI, by rw [(hp fun z => by rw [z] at hj; cases hj).1]; exact T⟩
  ptop := fun h => (hp h).2
  cag := B.cag
  vals := B.vals
  kits := B.kits
theorem facts_all (hc : chkAll g = true) (hp : g.lins ≠ [] → P.main.file = g.file ∧ (P.main.scope.names.lookup ("super" : Str)).isSome = false) (B : FactsB g ca K mg) : ∀ n, Facts g ca n P w K mg base
  | 0 => mkFacts hp B fun f cf hf => by
    obtain ⟨adr, fd, q1, q2, q3⟩ := B.fn f cf hf
    refine ⟨adr, fd, ⟨sp_len hf, fun A outer s H args us vs Q E hr he hb hv hs => ?_⟩, q2, q1.kp, q1, q3⟩
    obtain ⟨p, F, M, ds, r, rm, rs, e, h⟩ := hs
    cases e
  | n + 1 => mkFacts hp B fun f cf hf => by
    have IH := facts_all hc hp B n
    obtain ⟨adr, fd, q1, q2, q3⟩ := B.fn f cf hf
    refine ⟨adr, fd, ?_, q2, q1.kp, q1, q3⟩
    have hcf := List.all_eq_true.mp hc cf (List.mem_of_getElem? hf)
    obtain ⟨c1, c2⟩ := and2 hcf
    have S := fnScope_of c1
    refine q1.ok (N := cf.N) S (sp_len hf) fun cdv A outer s H vs Q E hr hsp => ?_
    refine ⟨tS K ca (fun cls d _ H => E cls d H) (exs (callN g.tab n) cf.core), sndSs cf.core cf.scope _ _ cf.stmts ?_ c2, ?_⟩
    · exact { hN := rfl, nd := S.nd, keep := fun x k _ h => h, fre := fun x h => .inl h, ekind := S.kind, calm := rfl, room := hr, tk := takes_of rfl rfl rfl rfl, facts := IH, kind := S.kind, fnc := fun _ _ => rfl, esc := rfl, own := passes_of rfl, stk := rfl, frm := rfl }
    · obtain ⟨p, F, M, ds, r, rm, rs, e, h⟩ := hsp
      have ht : g.tab f = some cf.fd := by unfold Gi.tab; rw [hf]; rfl
      have e : (match g.tab f with
        | some fd => runF (callN g.tab n) fd ds M
        | none => none) = some r := e
      rw [ht] at e
      have e : runF (callN g.tab n) cf.fd ds M = some r := e
      unfold runF at e
      split at e
      · rename_i hl
        cases z : exs (callN g.tab n) cf.fd.body (ds.map some ++ List.replicate (cf.fd.slots - ds.length) none) M with
        | none => rw [z] at e; cases e
        | some q =>
          rw [z] at e
          refine ⟨p, F, _, M, q, rm, re_start rs, z, ?_⟩
          have fin : ∀ (d : D) (M' : Mem), leave M.length d M' = some r → ∀ p' F' H' v, Step p F H p' F' H' → RM K p' F' M' H' → Rel K p' F' v d → Q v H' := fun d M' el p' F' H' v st rm' rl => by
            unfold leave at el
            split at el
            · rename_i hlow
              cases el
              exact h p F' H' v (step_back st) (rm_cut rm' rm.dom st.ph) (rl.same (ph_back rm st.ph) hlow)
            · cases el
              exact h p' F' H' v st rm' rl
          obtain ⟨fl, env', M'⟩ := q
          cases fl with
          | nx => exact fun p' F' H' σ' st rm' re' => fin .non M' e p' F' H' .non st rm' .non
          | brk => cases e
          | cont => cases e
          | ret d => exact fun p' F' H' v st rm' rl => fin d M' e p' F' H' v st rm' rl
          | exc x =>
            have e : (if x.low M.length = true then some (R.er x (M'.take M.length)) else none) = some r := e
            split at e
            · rename_i hlow
              cases e
              intro p' F' H' σ' cls dd st rm' re' ex
              refine h p F' H' cls dd (step_back st) (rm_cut rm' rm.dom st.ph) ⟨ex.1, ?_⟩
              have e2 := ex.2
              unfold Exn.low at hlow
              cases q : x.line with
              | none => trivial
              | some d =>
                rw [q] at e2 hlow
                obtain ⟨a, v, k1, k2, k3⟩ := e2
                exact ⟨a, v, k1, k2, k3.same (ph_back rm st.ph) hlow⟩
            · cases e
      · cases e
end
end Rf
end T_RfFn
section T_RfTop
set_option Elab.async false
set_option linter.all false
set_option maxRecDepth 100000
set_option maxHeartbeats 1000000
/-! Rf: what the module's top has written, told by names; the law's end -/
namespace Rf
open PySem PySem.Spec PyProof.Rows L2
def dvOf : D → He.Dv
  | .bl b => .bl b
  | .int i => .int i
  | .str s => .str s
  | _ => .non
theorem dv_eq {K : PySem.W.Frag} (d : D) : (dvOf d).v K = dvV d := by cases d <;> rfl
def CF.dd (cf : CF) : He.DefD := ⟨(cf.name, none), cf.name, cf.name, cf.params, cf.stmts, cf.scope, cf.dfl.map dvOf, []⟩
def Gi.exmFa (g : Gi) : List He.Fa := (List.range g.exms.length).flatMap fun k => (List.range g.clsN.length).map fun c => .exm (g.clsN.getD c "") (g.clsN.getD k "") ((g.exms.getD k []).contains c)
def Gi.fa (g : Gi) : List He.Fa := g.fns.map (fun cf => .glo cf.name) ++ (g.frees.map .free ++ (g.txts.map (fun p => .str p.1 p.2) ++ (g.nums.map (fun p => .int p.1 p.2) ++ (g.excs.map .glo ++ (g.excs.map .exc ++ (g.lins.map (fun l => .glo l.name) ++ g.exmFa))))))
def Gi.fn (g : Gi) : List He.DefD := g.fns.map CF.dd
mutual
/-- a value that the module's top has written -/
def topB (K : PySem.W.Frag) : D → Value → Bool
  | .non, u => match u with | .none => true | _ => false
  | .bl b, u => match u with | .bool c => decide (b = c) | _ => false
  | .int i, u => match u with | .int j _ => decide (i = j) | _ => false
  | .str s, u => match u with | .str z _ => decide (s = z) | _ => false
  | .tup ds, u => match u with
    | .ref a => match K.lookup a with
      | some ⟨.type c, _, .seq its _, _⟩ => decide (c = "tuple") && (decide (its.size ≤ sizeLine) && topBs K ds its.toList)
      | _ => false
    | _ => false
  | _, _ => false
def topBs (K : PySem.W.Frag) : List D → List Value → Bool
  | [], us => us.isEmpty
  | d :: ds, us => match us with
    | u :: us => topB K d u && topBs K ds us
    | [] => false
end
mutual
theorem topB_ok {K : PySem.W.Frag} : ∀ (d : D) (u : Value), topB K d u = true → ∃ v, RelV v u ∧ ∀ ph F, Rel K ph F v d
  | .non, u, h => by
    cases u <;> first | (cases h; done) | skip
    exact ⟨.non, rfl, fun _ _ => .non⟩
  | .bl b, u, h => by
    cases u <;> first | (cases h; done) | skip
    cases (of_decide_eq_true h : _ = _)
    exact ⟨.bl b, rfl, fun _ _ => .bl _⟩
  | .int b, u, h => by
    cases u <;> first | (cases h; done) | skip
    cases (of_decide_eq_true h : _ = _)
    exact ⟨.int b, ⟨_, rfl⟩, fun _ _ => .int _⟩
  | .str b, u, h => by
    cases u <;> first | (cases h; done) | skip
    cases (of_decide_eq_true h : _ = _)
    exact ⟨.str b, ⟨_, rfl⟩, fun _ _ => .str _⟩
  | .tup ds, u, h => by
    unfold topB at h
    split at h
    · split at h
      · rename_i a _ c od its n sl hl
        obtain ⟨h1, h2⟩ := and2 h
        obtain ⟨h3, h4⟩ := and2 h2
        obtain ⟨vs, q1, q2⟩ := topBs_ok ds _ h4
        refine ⟨.ref a, rfl, fun ph F => .tup (.inr ⟨_, its, n, hl, congrArg Value.type (of_decide_eq_true h1), rfl, of_decide_eq_true h3, q1⟩) (q2 ph F)⟩
      · cases h
    · cases h
  | .lst _, u, h => by cases h
  | .dic _ _, u, h => by cases h
  | .cell _, u, h => by cases h
  | .scr _, u, h => by cases h
  | .exn _ _, u, h => by cases h
theorem topBs_ok {K : PySem.W.Frag} : ∀ (d : List D) (u : List Value), topBs K d u = true → ∃ v, Vals v u ∧ ∀ ph F, Rels K ph F v d
  | [], u, h => by
    cases u <;> first | (cases h; done) | skip
    exact ⟨[], .nil, fun _ _ => .nil⟩
  | d :: ds, u, h => by
    cases u with
    | nil => cases h
    | cons u us =>
      obtain ⟨h1, h2⟩ := and2 (show (topB K d u && topBs K ds us) = true from h)
      obtain ⟨v, q1, q2⟩ := topB_ok d u h1
      obtain ⟨vs, q3, q4⟩ := topBs_ok ds us h2
      exact ⟨v :: vs, .cons q1 q3, fun ph F => .cons (q2 ph F) (q4 ph F)⟩
end
def Gi.ex (g : Gi) (K : PySem.W.Frag) : Bool := g.tups.all fun p => match PySem.W.nsIn K mainGlobals p.1 with
  | some (some u) => topB K p.2 u
  | _ => false
def Gi.ca (g : Gi) (K : PySem.W.Frag) (k : Nat) : Addr := He.ga K (g.clsN.getD k "")
/-- how a def's arguments bind -/
def BindOk (cf : CF) : Prop := ∀ (K : PySem.W.Frag) (adr : Addr) (fd : FuncData), FunD K cf.name cf.name cf.params cf.stmts cf.scope (cf.dfl.map dvV) [] adr fd → ∀ b ∈ cf.binds, ∃ dvs ds, Vals dvs ds ∧ Binds K fd cf.ps ds ∧ ∀ p F, Rels K p F dvs b.2
theorem bind_n {cf : CF} {n : Nat} (e : cf.binds = [(n, [])]) (e2 : cf.dfl = []) (h : ∀ (kV doc pm : Value) (an : Option Addr) (cdv ct : Value) (us : List Value), us.length = cf.ps.length → bindArgs (PySem.W.fnOf cf.name cf.name cf.params cf.stmts cf.scope .none kV doc pm an cdv ct) ⟨us, []⟩ = pure (cf.ps.zip us)) : BindOk cf := by
  intro K adr fd F b hb
  rw [e] at hb
  rw [e2] at F
  cases List.mem_singleton.mp hb
  exact ⟨[], [], .nil, F.bindsN h, fun _ _ => .nil⟩
theorem rels_flat {K : PySem.W.Frag} {p : Ph} {F : Hp} : ∀ {l : List D}, l.all flatD = true → Rels K p F (l.map dvV) l
  | [], _ => .nil
  | d :: l, h => by
    obtain ⟨h1, h2⟩ := and2 (show (flatD d && l.all flatD) = true by simpa using h)
    refine .cons ?_ (rels_flat h2)
    cases d <;> first | (cases h1; done) | constructor
theorem all_drop {l : List D} (h : l.all flatD = true) (j : Nat) : (l.drop j).all flatD = true :=
  List.all_eq_true.mpr fun x hx => List.all_eq_true.mp h x (List.mem_of_mem_drop hx)
/-- with defaults that are constants -/
theorem bind_d {cf : CF} (hf : cf.dfl.all flatD = true) (h0 : cf.dfl ≠ []) (h : ∀ b ∈ cf.binds, ∃ j, b.2 = cf.dfl.drop j ∧ b.1 + (cf.dfl.length - j) = cf.ps.length ∧
    ∀ (T : Addr) (kV doc pm : Value) (an : Option Addr) (cdv ct : Value) (us its : List Value), us.length = b.1 → its.length = cf.dfl.length →
      ∃ k, bindArgs (PySem.W.fnOf cf.name cf.name cf.params cf.stmts cf.scope (.ref T) kV doc pm an cdv ct) ⟨us, []⟩ = seqItems? (.ref T) >>= k ∧ k (some its.toArray) = pure (cf.ps.zip (us ++ its.drop j))) : BindOk cf := by
  intro K adr fd F b hb
  obtain ⟨j, e1, e2, e3⟩ := h b hb
  have l : (cf.dfl.map dvV).length = cf.dfl.length := List.length_map ..
  obtain ⟨ds, d1, d2⟩ := F.binds1 (ps := cf.ps) b.1 j (by intro z; exact h0 (List.map_eq_nil_iff.mp z)) (by rw [l]; exact e2) (fun T kV doc pm an cdv ct us its hu hi => e3 T kV doc pm an cdv ct us its hu (by rw [hi, l]))
  refine ⟨_, ds, d1, d2, fun p F => ?_⟩
  rw [e1, ← List.map_drop]
  exact rels_flat (all_drop hf j)
/-! ### the hook: what the module's names reach in three steps, told once -/
def outZ (g : Addr → Option Obj) (as : List Addr) : List Addr := as.flatMap fun a => match g a with
  | some o => He.refsD o
  | none => []
def asZ (g : Addr → Option Obj) : List Addr := (fun l1 => (fun l2 => mainGlobals :: (l1 ++ (l2 ++ outZ g l2))) (outZ g l1)) (outZ g [mainGlobals])
/-! an error's class with a line -/
abbrev LnW : Type := Option (Str × Str × Arguments × FuncBody × Scope × Addr × List Str × Addr)
def lnW (K : PySem.W.Frag) (x : Str) : LnW := match K.lookup (He.ma K (He.ga K x) "__init__") with
  | some ⟨_, _, .func fd, _⟩ => some (fd.name, fd.qualname, fd.params, fd.body, fd.scope, fd.globals, fd.closure.map (·.1), fd.builtins)
  | _ => none
def LnC.val (l : LnC) : LnW := some ("__init__", l.qual, PySem.LineX.iA l.p1 l.p2, .stmts (PySem.LineX.iB l.q), PySem.LineX.iS, mainGlobals, ["__class__"], builtinsNs)
def lnCls (K : PySem.W.Frag) (C : Addr) : Bool := match K.lookup C with
  | some ⟨.type "type", _, .cls cd, sl⟩ => (match cd.mro, sl.toList with
    | .ref C' :: bm, [_, _, _, _, some (.builtin n), _] => C' == C && (n == "ValueError.__new__" && (!cd.hasDel && (cd.hasDict && HandSPX.refsVE bm)))
    | _, _ => false)
  | _ => false
theorem lnCls_ok {K : PySem.W.Frag} {C : Addr} (q : lnCls K C = true) : ∃ nm q N bs bm sn sub ab col dd k0 k1 k2 k3 k5, K.lookup C = some (excClassObj nm q C N bs bm true sn sub ab col dd k0 k1 k2 k3 k5 "ValueError.__new__") ∧ HandSPX.refsVE bm = true := by
  unfold lnCls at q
  split at q
  · rename_i dd cd sl ho
    split at q
    · rename_i C' bm k0 k1 k2 k3 n k5 hm hs
      simp only [Bool.and_eq_true, beq_iff_eq, Bool.not_eq_true'] at q
      obtain ⟨rfl, rfl, hdel, hdd, ht⟩ := q
      obtain ⟨nm, bs, mro, ns, qn, hd, sn, sub, ab, col, del⟩ := cd
      dsimp only at hm hdel hdd
      subst hm hdel hdd
      have hsl : sl = #[k0, k1, k2, k3, some (.builtin "ValueError.__new__"), k5] := by
        obtain ⟨l⟩ := sl
        simp only at hs
        rw [hs]
      subst hsl
      exact ⟨nm, qn, ns, bs, bm, sn, sub, ab, col, dd, k0, k1, k2, k3, k5, ho, ht⟩
    · cases q
  · cases q
def lnCode (K : PySem.W.Frag) (file : Str) : Value → Bool
  | .ref c => (match K.lookup c with
    | some ⟨_, _, .fields vs, _⟩ => (match (vs[2]? : Option Value) with
      | some (.str f _) => file == f
      | _ => false)
    | _ => false)
  | _ => false
theorem lnCode_ok {K : PySem.W.Frag} {file : Str} {v : Value} (h : lnCode K file v = true) : ∃ cda, v = .ref cda ∧ ∃ c1 d1 vs s1 f tf, K.lookup cda = some ⟨c1, d1, .fields vs, s1⟩ ∧ vs[2]? = some (.str f tf) ∧ (file == f) = true := by
  unfold lnCode at h
  split at h
  · rename_i c
    split at h
    · rename_i c1 d1 vs s1 ho
      split at h
      · rename_i f tf hv
        exact ⟨c, rfl, c1, d1, vs, s1, f, tf, ho, hv, h⟩
      · cases h
    · cases h
  · cases h
def lnCell (K : PySem.W.Frag) (C : Addr) : List (Str × Addr) → Bool
  | [(_, cc)] => (match K.lookup cc with
    | some ⟨_, _, .cell (some (.ref D)), _⟩ => decide (D = C)
    | _ => false)
  | _ => false
theorem lnCell_ok {K : PySem.W.Frag} {C : Addr} {l : List (Str × Addr)} (h : lnCell K C l = true) : ∃ x cc, l = [(x, cc)] ∧ ∃ c2 d2 s2, K.lookup cc = some ⟨c2, d2, .cell (some (.ref C)), s2⟩ := by
  unfold lnCell at h
  split at h
  · rename_i x cc
    split at h
    · rename_i c2 d2 D s2 ho
      cases (of_decide_eq_true h)
      exact ⟨x, cc, rfl, c2, d2, s2, ho⟩
    · cases h
  · cases h
def lineB (file : Str) (K : PySem.W.Frag) (l : LnC) : Bool := (fun C => (fun fI => lnCls K C && (He.eqO (PySem.W.findIn K (.ref C) "__setattr__") (some (some (.builtin "object.__setattr__"))) && (He.eqO (PySem.W.findIn K (.ref C) "__getattribute__") (some (some (.builtin "BaseException.__getattribute__"))) &&
  (He.eqO (PySem.W.findIn K (.ref C) "__getattr__") (some none) && (He.eqO (PySem.W.findIn K (.ref C) "line") (some none) && (He.eqO (PySem.W.findIn K (.ref C) "__init__") (some (some (.ref fI))) && (decide (PySem.W.typeIn K (.ref fI) = some (.type "function")) && (PySem.W.keepIn K (.ref C) &&
  (decide (PySem.W.subIn K (.ref C) (.type "BaseException") = some true) && (decide (PySem.W.subIn K (.ref C) (.type "ValueError") = some true) && (decide (PySem.W.typeIn K (.ref C) = some (.type "type")) && (PySem.W.hasDictIn K C && (decide (PySem.W.exmOne K (.ref C) (.ref C) = some true) && (decide (PySem.W.mroIn K C (.ref C) = some true) &&
  (He.eqO (PySem.W.ks_superIn K C C "__init__") (some (some (.builtin "ValueError.__init__"))) && (He.eqO (PySem.W.nsIn K cStatics "thirdparty.any") (some none) && ((l.q.c.endLine == l.q.e.line) && (match K.lookup fI with
    | some ⟨_, _, .func fd, _⟩ => decide (fd.defaults = .none) && (decide (fd.kwdefaults = .none) && (PySem.W.codeIn K fd.code l.qual && (lnCode K file fd.code && lnCell K C fd.closure)))
    | _ => false)))))))))))))))))) (He.ma K C "__init__")) (He.ga K l.name)
theorem line_ok {file : Str} {K : PySem.W.Frag} {l : LnC} (h : lineB file K l = true) (e : lnW K l.name = l.val) : ∃ fI, PySem.LineX.LineTxt file K (He.ga K l.name) fI := by
  refine ⟨He.ma K (He.ga K l.name) "__init__", ?_⟩
  have h : (lnCls K _ && (_ && _)) = true := h
  obtain ⟨h1, h⟩ := and2 h
  obtain ⟨h2, h⟩ := and2 h
  obtain ⟨h3, h⟩ := and2 h
  obtain ⟨h4, h⟩ := and2 h
  obtain ⟨h5, h⟩ := and2 h
  obtain ⟨h6, h⟩ := and2 h
  obtain ⟨h7, h⟩ := and2 h
  obtain ⟨h8, h⟩ := and2 h
  obtain ⟨h9, h⟩ := and2 h
  obtain ⟨h10, h⟩ := and2 h
  obtain ⟨h11, h⟩ := and2 h
  obtain ⟨h12, h⟩ := and2 h
  obtain ⟨h13, h⟩ := and2 h
  obtain ⟨h14, h⟩ := and2 h
  obtain ⟨h15, h⟩ := and2 h
  obtain ⟨h16, h⟩ := and2 h
  obtain ⟨h17, h⟩ := and2 h
  refine ⟨lnCls_ok h1, He.eqO_ok h2, He.eqO_ok h3, He.eqO_ok h4, He.eqO_ok h5, He.eqO_ok h6, of_decide_eq_true h7, h8, of_decide_eq_true h9, of_decide_eq_true h10, of_decide_eq_true h11, h12, of_decide_eq_true h13, of_decide_eq_true h14, He.eqO_ok h15, He.eqO_ok h16, ?_⟩
  unfold lnW at e
  cases q : K.lookup (He.ma K (He.ga K l.name) "__init__") with
  | none => rw [q] at h; cases h
  | some o =>
    obtain ⟨oc, od, dat, osl⟩ := o
    rw [q] at h e
    cases dat with
    | func fd =>
      have h : (decide (fd.defaults = .none) && (decide (fd.kwdefaults = .none) && (PySem.W.codeIn K fd.code l.qual && (lnCode K file fd.code && lnCell K _ fd.closure)))) = true := h
      obtain ⟨g1, h⟩ := and2 h
      obtain ⟨g2, h⟩ := and2 h
      obtain ⟨g3, h⟩ := and2 h
      obtain ⟨g4, g5⟩ := and2 h
      obtain ⟨cda, e1, g6⟩ := lnCode_ok g4
      obtain ⟨x, cc, e2, g7⟩ := lnCell_ok g5
      obtain ⟨f1, f2, f3, f4, f5, f6, f7, f8, f9, f10, f11, f12, f13, f14, f15⟩ := fd
      have e : some (f1, f2, f3, f4, f5, f6, f7.map (·.1), f15) = l.val := e
      unfold LnC.val at e
      injection e with e
      simp only [Prod.mk.injEq] at e
      obtain ⟨a1, a2, a3, a4, a5, a6, a7, a8⟩ := e
      dsimp only at e1 e2 g1 g2 g3
      replace g1 := of_decide_eq_true g1
      replace g2 := of_decide_eq_true g2
      subst a1 a2 a3 a4 a5 a6 a8 e1 e2 g1 g2
      simp only [List.map_cons, List.map_nil, List.cons.injEq, and_true] at a7
      subst a7
      exact ⟨oc, od, _, _, _, cda, cc, _, osl, l.p1, l.p2, l.q, _, h17, rfl, g3, g6, g7⟩
    | _ => cases h
def outL (g : Addr → Option Obj) (ls : List LnC) (K0 : PySem.W.Frag) : List Addr := cStatics :: ls.flatMap fun l => match g (He.ma K0 (He.ga K0 l.name) "__init__") with
  | some o => He.refsD o
  | none => []
def asL (g : Addr → Option Obj) : List LnC → List Addr
  | [] => asZ g
  | l :: ls => asZ g ++ outL g (l :: ls) (He.frG g (asZ g))
abbrev AlZ : Type := (He.AlD × Bool) × List LnW
def valB (K : PySem.W.Frag) (x : Str) : Bool := (fun C => (PySem.W.clsIn K C).isSome && (He.eqO (PySem.W.findIn K (.ref C) "__getattribute__") (some (some (.builtin "BaseException.__getattribute__"))) && (He.eqO (PySem.W.findIn K (.ref C) "__getattr__") (some none) &&
  (decide (PySem.W.subIn K (.ref C) (.type "BaseException") = some true) && (He.eqO (PySem.W.findIn K (.ref C) "__class__") (some (some (.builtin "object.__class__"))) && (He.eqO (PySem.W.specialIn K (.builtin "object.__class__") "__get__") (some (some (.builtin "getset_descriptor.__get__"))) &&
  (decide (PySem.W.takesIn K (.builtin "object.__class__") = some true) && (decide (PySem.W.mroIn K C (.type "object") = some true) && decide (PySem.W.kitOne K (.ref C) (.type "ValueError") = some true))))))))) (He.ga K x)
theorem valB_ok {K : PySem.W.Frag} {x : Str} (h : valB K x = true) : XvC K (He.ga K x) ∧ PySem.W.kitOne K (.ref (He.ga K x)) (.type "ValueError") = some true := by
  have h : ((PySem.W.clsIn K (He.ga K x)).isSome && (_ && _)) = true := h
  obtain ⟨h1, h⟩ := and2 h
  obtain ⟨h2, h⟩ := and2 h
  obtain ⟨h3, h⟩ := and2 h
  obtain ⟨h4, h⟩ := and2 h
  obtain ⟨h5, h⟩ := and2 h
  obtain ⟨h6, h⟩ := and2 h
  obtain ⟨h7, h⟩ := and2 h
  obtain ⟨h8, h9⟩ := and2 h
  exact ⟨⟨h1, He.eqO_ok h2, He.eqO_ok h3, of_decide_eq_true h4, He.eqO_ok h5, He.eqO_ok h6, of_decide_eq_true h7, of_decide_eq_true h8⟩, of_decide_eq_true h9⟩
def kitB (K : PySem.W.Frag) (p : Str × Str × Bool) : Bool := decide (PySem.W.kitOne K (.ref (He.ga K p.1)) (.ref (He.ga K p.2.1)) = some p.2.2)
def Gi.exL (g : Gi) (K : PySem.W.Frag) : Bool := g.ex K && (g.lins.all (lineB g.file K) && (g.vals.all (valB K) && g.kits.all (kitB K)))
def obsK (g : Gi) (K : PySem.W.Frag) : AlZ := ((He.obsD g.fa g.fn K, g.exL K), g.lins.map fun l => lnW K l.name)
def Gi.valZ (g : Gi) : AlZ := ((He.valD g.fn, true), g.lins.map LnC.val)
def obsZ (gi : Gi) (g : Addr → Option Obj) : AlZ := obsK gi (He.frG g (asL g gi.lins))
structure SaysZ (g : Gi) (w : World) (h : Heap) (K : PySem.W.Frag) : Prop where
  x : He.SaysX g.fa g.fn [] [] g.exL w h K
  ln : (g.lins.map fun l => lnW K l.name) = g.lins.map LnC.val
theorem saysX_ofZ {g : Gi} {w : World} {h : Heap} {K : PySem.W.Frag} (e : obsK g K = g.valZ) : SaysZ g w h K := by
  have e1 : He.obsD g.fa g.fn K = He.valD g.fn := congrArg (fun z : AlZ => z.1.1) e
  have e2 : g.exL K = true := congrArg (fun z : AlZ => z.1.2) e
  have e3 : (g.lins.map fun l => lnW K l.name) = g.lins.map LnC.val := congrArg (fun z : AlZ => z.2) e
  refine ⟨⟨?_, e2, fun p hp => (nomatch hp), fun p hp => (nomatch hp), fun p hp => (nomatch hp)⟩, e3⟩
  show (He.obsD g.fa g.fn K, _) = (He.valD g.fn, _)
  rw [e1]; rfl
def hookZ (g : Gi) : PySem.W.Hook where
  α := AlZ
  obs := fun s => obsZ g s.heap.get?
  val := fun _ => g.valZ
  says := fun w h => ∃ K : PySem.W.Frag, K.In h ∧ SaysZ g w h K
  of := fun _ _ e => ⟨_, He.frG_in, saysX_ofZ e⟩
  keeps := fun _ _ _ ⟨K, hK, c⟩ k => ⟨K, PySem.W.Frag.In.keeps hK k, ⟨⟨c.x.t, c.x.more, c.x.hd, c.x.out, fun p hp => k _ _ (c.x.empty p hp)⟩, c.ln⟩⟩
theorem obsZ_eq {gi : Gi} {g : Addr → Option Obj} {s : Shared} (h : ∀ a, g a = s.heap.get? a) : obsZ gi g = (hookZ gi).obs s := by
  have e : g = s.heap.get? := funext h
  rw [e] <;> rfl
theorem factsB {g : Gi} {w : World} {K : PySem.W.Frag} {h : Heap} {mg : Str → Option Value} (X : K.In h) (G : h.Ns mainGlobals mg) (cz : SaysZ g w h K) (hb : ∀ cf ∈ g.fns, BindOk cf) : FactsB g (g.ca K) K mg := by
  have c := cz.x
  have cd : He.SaysD g.fa g.fn K := c.t.d
  have fact : ∀ f ∈ g.fa, f.ok K = true := fun f hf => cd.facts hf
  obtain ⟨cm1, cm⟩ := and2 (show (g.ex K && (g.lins.all (lineB g.file K) && (g.vals.all (valB K) && g.kits.all (kitB K)))) = true from c.more)
  obtain ⟨cm2, cm⟩ := and2 cm
  obtain ⟨cm3, cm4⟩ := and2 cm
  have fe : ∀ f, f ∈ (g.excs.map He.Fa.glo ++ (g.excs.map He.Fa.exc ++ (g.lins.map (fun l => He.Fa.glo l.name) ++ g.exmFa))) → f.ok K = true := fun f hf => fact f (List.mem_append_right _ (List.mem_append_right _ (List.mem_append_right _ (List.mem_append_right _ hf))))
  have gca : ∀ k x, g.clsN[k]? = some x → g.ca K k = He.ga K x := fun k x hk => by unfold Gi.ca; rw [List.getD_eq_getElem?_getD, hk]; rfl
  have exl : ∀ k x, g.excs[k]? = some x → g.clsN[k]? = some x := fun k x hk => by
    unfold Gi.clsN
    rw [List.getElem?_append_left ((List.getElem?_eq_some_iff.mp hk).1)]
    exact hk
  refine ⟨fun k x hk => ?_, fun k cs hk => ?_, fun j x hj => ?_, gca, fun y hy => valB_ok (List.all_eq_true.mp cm3 y hy), fun p hp => of_decide_eq_true (List.all_eq_true.mp cm4 p hp), fun x hx => ?_, fun p hp => ?_, fun p hp => ?_, fun p hp => ?_, fun k x hk => ?_, fun f cf hf => ?_⟩
  · rw [gca k x hk]
    have hm : x ∈ g.excs ++ g.lins.map LnC.name := List.mem_of_getElem? hk
    rcases List.mem_append.mp hm with hm | hm
    · exact He.glo_ok X G (fe (.glo x) (List.mem_append_left _ (List.mem_map_of_mem hm)))
    · obtain ⟨l, hl, rfl⟩ := List.mem_map.mp hm
      exact He.glo_ok X G (fe (.glo l.name) (List.mem_append_right _ (List.mem_append_right _ (List.mem_append_left _ (List.mem_map_of_mem (f := fun l : LnC => He.Fa.glo l.name) hl)))))
  · intro c hc
    have hk1 : k < g.exms.length := (List.getElem?_eq_some_iff.mp hk).1
    have e := He.exm_ok (fe (.exm (g.clsN.getD c "") (g.clsN.getD k "") ((g.exms.getD k []).contains c)) (List.mem_append_right _ (List.mem_append_right _ (List.mem_append_right _ (List.mem_flatMap.mpr ⟨k, List.mem_range.mpr hk1, List.mem_map.mpr ⟨c, List.mem_range.mpr hc, rfl⟩⟩)))))
    rw [List.getD_eq_getElem?_getD (l := g.exms), hk] at e
    exact e
  · have hk : g.clsN[g.excs.length + j]? = some x.name := by
      unfold Gi.clsN
      rw [List.getElem?_append_right (Nat.le_add_right _ _), Nat.add_sub_cancel_left, List.getElem?_map, hj]
      rfl
    rw [gca _ _ hk]
    refine line_ok (List.all_eq_true.mp cm2 x (List.mem_of_getElem? hj)) ?_
    have e2 : (g.lins.map fun l => lnW K l.name)[j]? = (g.lins.map LnC.val)[j]? := by rw [cz.ln]
    rw [List.getElem?_map, List.getElem?_map, hj] at e2
    exact Option.some.inj e2
  · exact He.free_ok X G (fact (.free x) (List.mem_append_right _ (List.mem_append_left _ (List.mem_map_of_mem hx))))
  · obtain ⟨t, e⟩ := He.str_ok X G (fact (.str p.1 p.2) (List.mem_append_right _ (List.mem_append_right _ (List.mem_append_left _ (List.mem_map_of_mem (f := fun p : Str × Str => He.Fa.str p.1 p.2) hp)))))
    exact ⟨_, e, _, rfl⟩
  · obtain ⟨t, e⟩ := He.int_ok X G (fact (.int p.1 p.2) (List.mem_append_right _ (List.mem_append_right _ (List.mem_append_right _ (List.mem_append_left _ (List.mem_map_of_mem (f := fun p : Str × Int => He.Fa.int p.1 p.2) hp))))))
    exact ⟨_, e, _, rfl⟩
  · have hx := List.all_eq_true.mp cm1 p hp
    split at hx
    · rename_i u hu
      obtain ⟨v, q1, q2⟩ := topB_ok _ _ hx
      exact ⟨v, u, PySem.W.mg_of X G hu, q1, q2⟩
    · cases hx
  · have hm : x ∈ g.excs := List.mem_of_getElem? hk
    rw [gca k x (exl k x hk)]
    have h1 := He.glo_ok X G (fe (.glo x) (List.mem_append_left _ (List.mem_map_of_mem hm)))
    obtain ⟨h2, h3, h4, h5⟩ := He.exc_ok (fe (.exc x) (List.mem_append_right _ (List.mem_append_left _ (List.mem_map_of_mem hm))))
    exact ⟨h1, h3, h2, h4, h5⟩
  · have hm : cf ∈ g.fns := List.mem_of_getElem? hf
    obtain ⟨fd, F⟩ := cd.defs (d := cf.dd) (List.mem_map_of_mem hm)
    have h1 := He.glo_ok X G (fact (.glo cf.name) (List.mem_append_left _ (List.mem_map_of_mem (f := fun cf : CF => He.Fa.glo cf.name) hm)))
    have F : FunD K cf.name cf.name cf.params cf.stmts cf.scope (cf.dfl.map dvV) [] (He.ga K cf.name) fd := by
      have e : cf.dd.dvs K = cf.dfl.map dvV := by
        show ((cf.dfl.map dvOf).map (He.Dv.v K)) = _
        rw [List.map_map]
        exact List.map_congr_left fun d _ => dv_eq d
      rw [← e]
      exact F
    exact ⟨_, fd, F, h1, hb cf hm K _ fd F⟩
theorem fn_calm {P : Program} {w : World} {K : PySem.W.Frag} {mg : Str → Option Value} {base : Heap} {k : Nat} {f : Addr} {fd : FuncData} {ps : List Str} {sp : Sp} (F : FnOk P w K mg base (L2.CX P w) k f fd ps sp) :
    FnOk P w K mg base CX0 k f fd ps (fun vs H Q _ => sp vs H Q fun _ _ _ => False) := by
  refine ⟨fun vs H Q E h => F.len vs H Q _ h, fun A outer s H args us vs Q E hr he hb hv hs => ?_⟩
  refine codeAny_mono (F.run A outer s H args us vs Q _ hr he hb hv hs) fun r s' h => ?_
  cases r with
  | error e => obtain ⟨_, _, _, _, _, _, _, _, _, _, _, _, z⟩ := h; exact z.elim
  | ok fl => cases fl <;> exact h
/-- the law: what it answers, by the core -/
theorem law_end {l : PySem.W.OpenLaw} {g : Gi} {k f : Nat} {cf : CF} {q : Program} {loose : List Str} {XP : (Str → Option Value) → Heap → Prop} {d : DefRec} {x : Str} {n : Nat}
    (hn : l.most = some n) (hn2 : n ≤ sizeLine) (hdf : d.params.defaults = []) (hr : Room k callerA) (hf : g.fns[f]? = some cf) (hps : cf.ps = [x]) (hname : d.name = cf.name) (hbn : (1, []) ∈ cf.binds)
    (hc : chkAll g = true) (hp : g.lins ≠ [] → l.prog.main.file = g.file ∧ (l.prog.main.scope.names.lookup ("super" : Str)).isSome = false) (hb : ∀ cf ∈ g.fns, BindOk cf) (hl : ∀ ns : List Int, ns.length ≤ n → ∃ M, callN g.tab k f [.scr ns] [] = some (.ok (.bl true) M))
    (hbA : ∀ (K : PySem.W.Frag) (adr : Addr) (fd : FuncData), FunD K cf.name cf.name cf.params cf.stmts cf.scope (cf.dfl.map dvV) [] adr fd → ∀ (s : Shared) (u : Value), BindsTo s fd ⟨[u], []⟩ [(x, u)]) :
    PySem.W.WalkO q loose XP (hookZ g).says l.row.toRowW d [] (fun f vs => PySem.call f vs) := by
  refine L2.walk_ofE (l := l) (n := n) (k := k) (x := x) (CX := CX0) hn hn2 hdf hr ?_ (fun _ _ _ _ z => z)
  intro w mg fa h Y G hmg
  obtain ⟨K, KX, c⟩ := Y
  have B := factsB KX G c hb
  refine ⟨K, ?_⟩
  have key : ∀ base : Heap, Facts g (g.ca K) k l.prog w K mg base := fun base => facts_all hc hp B k
  obtain ⟨adr, fd, F, q1, q2⟩ := B.fn f cf hf
  rw [hname] at hmg
  cases hmg.symm.trans q1
  refine ⟨fd, fun vs H Q _ => spF K (g.ca K) (callN g.tab k) f vs H Q fun _ _ _ => False, KX, hbA K _ fd F, fun H a ns hns hO hS => ?_, fun base kb nb => ?_⟩
  · obtain ⟨M, hM⟩ := hl ns hns
    refine ⟨fun _ => none, H, [], [.scr ns], _, ⟨fun _ _ h => h, fun n => ⟨fun h => absurd h (Nat.not_lt_zero _), fun ⟨_, h⟩ => (nomatch h)⟩, fun _ _ _ h => (nomatch h), fun _ _ h => (nomatch h), fun _ _ _ h => (nomatch h)⟩, .cons (.scr hS) .nil, hM, fun p' F' H' v st rm rl => ?_⟩
    cases rl
    rfl
  · obtain ⟨adr2, fd2, G1, G2, G3, G4, G5⟩ := (key base).fn f cf hf
    rw [q1] at G2
    cases G2
    have e : fd2 = fd := by
      obtain ⟨_, _, _, _, _, _, _, _, _, _, _, l1, _⟩ := F.ex
      obtain ⟨_, _, _, _, _, _, _, _, _, _, _, l2, _⟩ := G4.ex
      rw [l1] at l2
      cases l2
      rfl
    rw [e, hps] at G1
    exact fn_calm G1
end Rf
end T_RfTop
section T_RfEv
set_option Elab.async false
set_option linter.all false
set_option maxRecDepth 100000
/-! Rf: how the evaluator is used in plain Lean -/
namespace Rf
open PySem L2
theorem turns_mono {c : Env → Mem → Res D} {b : Env → Mem → SRes} : ∀ {n : Nat} {env : Env} {M : Mem} {r : Fl × Env × Mem}, turns c b n env M = some r → turns c b (n + 1) env M = some r
  | 0, env, M, r, h => by cases h
  | n + 1, env, M, r, h => by
    unfold turns at h ⊢
    cases z : asB (c env M) with
    | none => rw [z] at h; cases h
    | some q =>
      rw [z] at h
      cases q with
      | er x M1 => exact h
      | ok t M1 =>
        cases t with
        | false => exact h
        | true =>
          have h : (match b env M1 with
            | some (.nx, e, M) => turns c b n e M
            | some (.cont, e, M) => turns c b n e M
            | some (.brk, e, M) => some (.nx, e, M)
            | r => r) = some r := h
          show (match b env M1 with
            | some (.nx, e, M) => turns c b (n + 1) e M
            | some (.cont, e, M) => turns c b (n + 1) e M
            | some (.brk, e, M) => some (.nx, e, M)
            | r => r) = some r
          cases z2 : b env M1 with
          | none => rw [z2] at h; cases h
          | some q2 =>
            rw [z2] at h
            obtain ⟨fl, e, M2⟩ := q2
            cases fl with
            | nx => exact turns_mono h
            | cont => exact turns_mono h
            | brk => exact h
            | ret d => exact h
            | exc x => exact h
theorem turns_le {c : Env → Mem → Res D} {b : Env → Mem → SRes} {n m : Nat} {env : Env} {M : Mem} {r : Fl × Env × Mem} (h : turns c b n env M = some r) (hl : n ≤ m) : turns c b m env M = some r := by
  induction hl with
  | refl => exact h
  | step _ ih => exact turns_mono ih
theorem whileS_of {c : Env → Mem → Res D} {b : Env → Mem → SRes} {n : Nat} {env : Env} {M : Mem} {r : Fl × Env × Mem} (h : turns c b n env M = some r) : whileS c b env M = some r := by
  have hx : ∃ n, (turns c b n env M).isSome = true := ⟨n, by rw [h]; rfl⟩
  unfold whileS
  rw [dif_pos hx]
  have h2 := Classical.choose_spec hx
  cases z : turns c b (Classical.choose hx) env M with
  | none => rw [z] at h2; cases h2
  | some q =>
    rcases Nat.le_total n (Classical.choose hx) with hl | hl
    · rw [turns_le h hl] at z; exact z.symm
    · rw [turns_le z hl] at h; exact h
theorem callN_at {T : Tab} {n f : Nat} {fd : Fd} {args : List D} {M : Mem} (h : T f = some fd) : callN T (n + 1) f args M = runF (callN T n) fd args M := by
  show (match T f with
    | some fd => runF (callN T n) fd args M
    | none => none) = _
  rw [h]
theorem runF_ret {cl : Calls} {fd : Fd} {args : List D} {M M' : Mem} {d : D} {e : Env} (ha : args.length = fd.arity) (h : exs cl fd.body (args.map some ++ List.replicate (fd.slots - args.length) none) M = some (.ret d, e, M')) : runF cl fd args M = leave M.length d M' := by
  unfold runF
  rw [if_pos ha, h]
theorem leave_low {n : Nat} {d : D} {M : Mem} (h : d.low n = true) : leave n d M = ok d (M.take n) := by unfold leave; rw [if_pos h]
theorem leave_same {d : D} {M : Mem} : leave M.length d M = ok d M := by
  unfold leave
  split
  · rw [List.take_length]
  · rfl
end Rf
end T_RfEv
section T_RfSimp
set_option Elab.async false
set_option linter.all false
set_option maxRecDepth 100000
/-! Rf: the evaluator's equations, for simp -/
namespace Rf
open PySem L2
section
variable {α β : Type} {cl : Calls} {env : Env} {M : Mem}
@[simp] theorem s_bind_ok {a : α} {k : α → Mem → Res β} : (ok a M).bind k = k a M := rfl
@[simp] theorem s_bind_none {k : α → Mem → Res β} : Res.bind (none : Res α) k = none := rfl
@[simp] theorem s_bind_er {x : Exn} {k : α → Mem → Res β} : Res.bind (some (R.er x M) : Res α) k = some (R.er x M) := rfl
@[simp] theorem s_asB {b : Bool} : asB (ok (.bl b) M) = ok b M := rfl
@[simp] theorem s_asB_er {x : Exn} : asB (some (R.er x M)) = some (R.er x M) := rfl
@[simp] theorem s_lift {a : α} : lift (some a) M = ok a M := rfl
@[simp] theorem s_to_ok {a : α} {k : α → Mem → SRes} : (ok a M).to env k = k a M := rfl
@[simp] theorem s_to_er {x : Exn} {k : α → Mem → SRes} : Res.to (some (R.er x M) : Res α) env k = some (Fl.exc x, env, M) := rfl
@[simp] theorem s_get0 {d : D} : getV (some d :: env) 0 M = ok d M := rfl
@[simp] theorem s_getS {x : Option D} {i : Nat} : getV (x :: env) (i + 1) M = getV env i M := rfl
@[simp] theorem ev_var {i : Nat} : ev cl (.var i) env M = getV env i M := rfl
@[simp] theorem ev_con {d : D} : ev cl (.con d) env M = ok d M := rfl
@[simp] theorem ev_bin {op : Op} {a b : CE} : ev cl (.bin op a b) env M = (ev cl a env M).bind fun x M => (ev cl b env M).bind fun y M => lift (eOp M op x y) M := rfl
@[simp] theorem ev_neg {a : CE} : ev cl (.neg a) env M = (ev cl a env M).bind fun x M => negI x M := rfl
@[simp] theorem ev_cmp {op : Co} {a b : CE} : ev cl (.cmp op a b) env M = (ev cl a env M).bind fun x M => (ev cl b env M).bind fun y M => lift ((eCo op x y).map .bl) M := rfl
@[simp] theorem ev_isN {a : CE} : ev cl (.isN a) env M = (ev cl a env M).bind fun x M => ok (.bl (isNon x)) M := rfl
@[simp] theorem ev_notN {a : CE} : ev cl (.notN a) env M = (ev cl a env M).bind fun x M => ok (.bl (!isNon x)) M := rfl
@[simp] theorem ev_chain {p q : Co} {a b c : CE} : ev cl (.chain p q a b c) env M = (ev cl a env M).bind fun x M => (ev cl b env M).bind fun y M => (lift (eCo p x y) M).bind fun t M => if t then (ev cl c env M).bind fun z M => lift ((eCo q y z).map .bl) M else ok (.bl false) M := rfl
@[simp] theorem ev_and {a b : CE} : ev cl (.and a b) env M = (asB (ev cl a env M)).bind fun t M => if t then ev cl b env M else ok (.bl false) M := rfl
@[simp] theorem ev_or {a b : CE} : ev cl (.or a b) env M = (asB (ev cl a env M)).bind fun t M => if t then ok (.bl true) M else ev cl b env M := rfl
@[simp] theorem ev_not {a : CE} : ev cl (.not a) env M = (asB (ev cl a env M)).bind fun t M => ok (.bl (!t)) M := rfl
@[simp] theorem ev_notV {a : CE} : ev cl (.notV a) env M = (ev cl a env M).bind fun x M => lift ((notD x).map .bl) M := rfl
@[simp] theorem ev_ite {c a b : CE} : ev cl (.ite c a b) env M = (asB (ev cl c env M)).bind fun t M => if t then ev cl a env M else ev cl b env M := rfl
@[simp] theorem ev_tup {es : CEs} : ev cl (.tup es) env M = (evs cl es env M).bind fun xs M => if xs.length ≤ sizeLine then ok (.tup xs) M else none := rfl
@[simp] theorem ev_lst {es : CEs} : ev cl (.lst es) env M = (evs cl es env M).bind fun xs M => if xs.length ≤ sizeLine then ok (.lst xs) M else none := rfl
@[simp] theorem ev_lstM {es : CEs} : ev cl (.lstM es) env M = (evs cl es env M).bind fun xs M => if xs.length ≤ sizeLine ∧ D.lows 0 xs = true then ok (.cell M.length) (M ++ [.lst xs]) else none := rfl
@[simp] theorem ev_idx {a i : CE} : ev cl (.idx a i) env M = (ev cl a env M).bind fun x M => (ev cl i env M).bind fun y M => lift (eIdx M x y) M := rfl
@[simp] theorem ev_slc {a : CE} {lo hi : CO} : ev cl (.slc a lo hi) env M = (ev cl a env M).bind fun x M => (evO cl lo env M).bind fun l M => (evO cl hi env M).bind fun u M => lift (eSlc x l u) M := rfl
@[simp] theorem ev_rev {a : CE} : ev cl (.rev a) env M = (ev cl a env M).bind fun x M => lift (eRev x) M := rfl
@[simp] theorem ev_call {f : Nat} {es : CEs} {more : List D} : ev cl (.call f es more) env M = (evs cl es env M).bind fun xs M => cl f (xs ++ more) M := rfl
@[simp] theorem ev_bi {b : Bi} {es : CEs} : ev cl (.bi b es) env M = (evs cl es env M).bind fun xs M => lift (eBi M b xs) M := rfl
@[simp] theorem ev_isi {a : CE} {t : Ty} : ev cl (.isi a t) env M = (ev cl a env M).bind fun x M => lift ((isTy t x).map .bl) M := rfl
@[simp] theorem evs_nil : evs cl .nil env M = ok [] M := rfl
@[simp] theorem evs_cons {e : CE} {es : CEs} : evs cl (.cons e es) env M = (ev cl e env M).bind fun x M => (evs cl es env M).bind fun xs M => ok (x :: xs) M := rfl
@[simp] theorem evO_no : evO cl .no env M = ok none M := rfl
@[simp] theorem evO_at {e : CE} : evO cl (.at e) env M = (ev cl e env M).bind fun x M => someI x M := rfl
@[simp] theorem s_someI {i : Int} : someI (.int i) M = ok (some i) M := rfl
/-- a statement, then the others -/
def seqS (r : SRes) (k : Env → Mem → SRes) : SRes := match r with
  | some (.nx, env, M) => k env M
  | r => r
variable {k : Env → Mem → SRes} {e : Env}
@[simp] theorem seq_nx : seqS (some (.nx, e, M)) k = k e M := rfl
@[simp] theorem seq_ret {d : D} : seqS (some (.ret d, e, M)) k = some (.ret d, e, M) := rfl
@[simp] theorem seq_exc {x : Exn} : seqS (some (.exc x, e, M)) k = some (.exc x, e, M) := rfl
@[simp] theorem seq_brk : seqS (some (.brk, e, M)) k = some (.brk, e, M) := rfl
@[simp] theorem seq_cont : seqS (some (.cont, e, M)) k = some (.cont, e, M) := rfl
@[simp] theorem exs_nil : exs cl [] env M = some (.nx, env, M) := rfl
@[simp] theorem exs_cons {s : CS} {r : List CS} : exs cl (s :: r) env M = seqS (ex cl s env M) (exs cl r) := rfl
@[simp] theorem ex_asg {tg : Tg} {c : CE} : ex cl (.asg tg c) env M = (ev cl c env M).to env fun x M => match asT tg x env with
  | some env => some (.nx, env, M)
  | none => none := rfl
@[simp] theorem ex_ret {c : CE} : ex cl (.ret c) env M = (ev cl c env M).to env fun x M => some (.ret x, env, M) := rfl
@[simp] theorem ex_retN : ex cl .retN env M = some (.ret .non, env, M) := rfl
@[simp] theorem ex_ite {c : CE} {a b : List CS} : ex cl (.ite c a b) env M = (asB (ev cl c env M)).to env fun t M => if t then exs cl a env M else exs cl b env M := rfl
@[simp] theorem ex_whl {c : CE} {b : List CS} : ex cl (.whl c b) env M = whileS (ev cl c) (exs cl b) env M := rfl
@[simp] theorem ex_for {tg : Tg} {it : CI} {b : List CS} : ex cl (.for_ tg it b) env M = (evI cl it env M).to env fun xs M => forS tg (exs cl b) xs env M := rfl
@[simp] theorem ex_rais {c : Nat} : ex cl (.rais c) env M = some (.exc ⟨c, none⟩, env, M) := rfl
@[simp] theorem ex_ex {c : CE} : ex cl (.ex c) env M = (ev cl c env M).to env fun _ M => some (.nx, env, M) := rfl
@[simp] theorem asT_nm {i : Nat} {d : D} : asT (.nm i) d env = some (env.set i (some d)) := rfl
@[simp] theorem asT_tp {ts : TgL} {ds : List D} : asT (.tp ts) (.tup ds) env = asTs ts ds env := rfl
@[simp] theorem asTs_nil : asTs .nil [] env = some env := rfl
@[simp] theorem asTs_cons {t : Tg} {ts : TgL} {d : D} {ds : List D} : asTs (.cons t ts) (d :: ds) env = match asT t d env with
  | some env' => asTs ts ds env'
  | none => none := rfl
end
theorem line1 (n : Nat) (h : n ≤ 1000) : n ≤ sizeLine := Nat.le_trans h (by rw [sizeLine_eq]; decide)
/-- a call by its body's return -/
theorem call_ret {T : Tab} {n f : Nat} {fd : Fd} {args : List D} {M M' : Mem} {d : D} {e : Env} (h : T f = some fd) (ha : args.length = fd.arity)
    (hb : exs (callN T n) fd.body (args.map some ++ List.replicate (fd.slots - args.length) none) M = some (.ret d, e, M')) : callN T (n + 1) f args M = leave M.length d M' := by
  rw [callN_at h, runF_ret ha hb]
theorem call_pure {T : Tab} {n f : Nat} {fd : Fd} {args : List D} {M : Mem} {d : D} {e : Env} (h : T f = some fd) (ha : args.length = fd.arity)
    (hb : exs (callN T n) fd.body (args.map some ++ List.replicate (fd.slots - args.length) none) M = some (.ret d, e, M)) : callN T (n + 1) f args M = ok d M := by
  rw [call_ret h ha hb, leave_same]
end Rf
end T_RfSimp
section T_PlainD
set_option Elab.async false
set_option linter.all false
set_option maxRecDepth 100000
set_option maxHeartbeats 1000000
/-! Rf: plain data that is bounded (in plain Lean) -/
namespace Rf
open PySem L2
mutual
def pyOf : D → PyData
  | .non => .none
  | .bl b => .bool b
  | .int i => .int i
  | .str s => .str s
  | .tup xs => .tuple (pyOfs xs)
  | .lst xs => .list (pyOfs xs)
  | _ => .none
def pyOfs : List D → List PyData
  | [] => []
  | d :: ds => pyOf d :: pyOfs ds
end
/-- plain data: of depth n at most, sizes by k -/
def okD (k : Nat) : Nat → D → Bool
  | _, .non => true
  | _, .bl _ => true
  | _, .int i => decide (i.natAbs ≤ 10 ^ 40 + 20 * k)
  | _, .str s => decide (s.length ≤ 20 + k) && s.cps.all (fun c => decide (c < 128))
  | n + 1, .tup xs => decide (xs.length ≤ 20 + k) && xs.all (okD k n)
  | n + 1, .lst xs => decide (xs.length ≤ 20 + k) && xs.all (okD k n)
  | _, _ => false
section
variable {k n : Nat}
theorem okD_int {i : Int} (h : okD k n (.int i) = true) : i.natAbs ≤ 10 ^ 40 + 20 * k := by
  cases n <;> exact of_decide_eq_true h
theorem okD_tup {xs : List D} (h : okD k n (.tup xs) = true) : ∃ m, n = m + 1 ∧ xs.length ≤ 20 + k ∧ ∀ x ∈ xs, okD k m x = true := by
  cases n with
  | zero => cases h
  | succ m =>
    have h : (decide (xs.length ≤ 20 + k) && xs.all (okD k m)) = true := h
    rw [Bool.and_eq_true] at h
    exact ⟨m, rfl, of_decide_eq_true h.1, List.all_eq_true.mp h.2⟩
theorem okD_lst {xs : List D} (h : okD k n (.lst xs) = true) : ∃ m, n = m + 1 ∧ xs.length ≤ 20 + k ∧ ∀ x ∈ xs, okD k m x = true := by
  cases n with
  | zero => cases h
  | succ m =>
    have h : (decide (xs.length ≤ 20 + k) && xs.all (okD k m)) = true := h
    rw [Bool.and_eq_true] at h
    exact ⟨m, rfl, of_decide_eq_true h.1, List.all_eq_true.mp h.2⟩
theorem okD_tupI {xs : List D} (h1 : xs.length ≤ 20 + k) (h2 : ∀ x ∈ xs, okD k n x = true) : okD k (n + 1) (.tup xs) = true := by
  show (decide (xs.length ≤ 20 + k) && xs.all (okD k n)) = true
  rw [decide_eq_true h1, Bool.true_and]
  exact List.all_eq_true.mpr h2
theorem okD_lstI {xs : List D} (h1 : xs.length ≤ 20 + k) (h2 : ∀ x ∈ xs, okD k n x = true) : okD k (n + 1) (.lst xs) = true := by
  show (decide (xs.length ≤ 20 + k) && xs.all (okD k n)) = true
  rw [decide_eq_true h1, Bool.true_and]
  exact List.all_eq_true.mpr h2
theorem okD_mono {k' : Nat} (hk : k ≤ k') : ∀ {n n' : Nat} {d : D}, n ≤ n' → okD k n d = true → okD k' n' d = true
  | n, n', .non, _, _ => by cases n' <;> rfl
  | n, n', .bl _, _, _ => by cases n' <;> rfl
  | n, n', .int i, _, h => by
    have h1 := okD_int h
    have : i.natAbs ≤ 10 ^ 40 + 20 * k' := by omega
    cases n' <;> exact decide_eq_true this
  | n, n', .str s, _, h => by
    have h : (decide (s.length ≤ 20 + k) && s.cps.all (fun c => decide (c < 128))) = true := by cases n <;> exact h
    rw [Bool.and_eq_true] at h
    have h1 := of_decide_eq_true h.1
    have : (decide (s.length ≤ 20 + k') && s.cps.all (fun c => decide (c < 128))) = true := by
      rw [h.2, decide_eq_true (by omega)]; rfl
    cases n' <;> exact this
  | n, n', .tup xs, hn, h => by
    obtain ⟨m, rfl, h1, h2⟩ := okD_tup h
    obtain ⟨m', rfl⟩ : ∃ m', n' = m' + 1 := ⟨n' - 1, by omega⟩
    exact okD_tupI (by omega) fun x hx => okD_mono hk (by omega) (h2 x hx)
  | n, n', .lst xs, hn, h => by
    obtain ⟨m, rfl, h1, h2⟩ := okD_lst h
    obtain ⟨m', rfl⟩ : ∃ m', n' = m' + 1 := ⟨n' - 1, by omega⟩
    exact okD_lstI (by omega) fun x hx => okD_mono hk (by omega) (h2 x hx)
  | n, n', .dic _ _, _, h => by cases n <;> cases h
  | n, n', .cell _, _, h => by cases n <;> cases h
  | n, n', .scr _, _, h => by cases n <;> cases h
  | n, n', .exn _ _, _, h => by cases n <;> cases h
end
section
variable {k n : Nat}
theorem toPys_of : ∀ {xs : List D}, (∀ x ∈ xs, toPy x = some (pyOf x)) → toPys xs = some (pyOfs xs)
  | [], _ => rfl
  | x :: xs, h => by
    show (match toPy x, toPys xs with
      | some x, some xs => some (x :: xs)
      | _, _ => none) = _
    rw [h x (List.mem_cons_self ..), toPys_of fun y hy => h y (List.mem_cons_of_mem _ hy)]
    rfl
theorem canAll_of : ∀ {xs : List D}, (∀ x ∈ xs, (pyOf x).canLay0 = true) → PyData.canLayAll0 (pyOfs xs) = true
  | [], _ => rfl
  | x :: xs, h => by
    show (PyData.canLay0 (pyOf x) && PyData.canLayAll0 (pyOfs xs)) = true
    rw [h x (List.mem_cons_self ..), canAll_of fun y hy => h y (List.mem_cons_of_mem _ hy)]
    rfl
theorem okD_py : ∀ {n : Nat} {d : D}, okD k n d = true → toPy d = some (pyOf d) ∧ (pyOf d).canLay0 = true
  | n, .non, _ => ⟨rfl, rfl⟩
  | n, .bl _, _ => ⟨rfl, rfl⟩
  | n, .int _, _ => ⟨rfl, rfl⟩
  | n, .str s, h => ⟨rfl, by
    have h : (decide (s.length ≤ 20 + k) && s.cps.all (fun c => decide (c < 128))) = true := by cases n <;> exact h
    rw [Bool.and_eq_true] at h
    show s.cps.all (fun c => decide (c < 0x110000)) = true
    rw [Array.all_eq_true] at h ⊢
    intro i hi
    have := of_decide_eq_true (h.2 i hi)
    exact decide_eq_true (by omega)⟩
  | n, .tup xs, h => by
    obtain ⟨m, rfl, h1, h2⟩ := okD_tup h
    refine ⟨?_, canAll_of fun x hx => (okD_py (h2 x hx)).2⟩
    show (toPys xs).map PyData.tuple = _
    rw [toPys_of fun x hx => (okD_py (h2 x hx)).1]; rfl
  | n, .lst xs, h => by
    obtain ⟨m, rfl, h1, h2⟩ := okD_lst h
    refine ⟨?_, canAll_of fun x hx => (okD_py (h2 x hx)).2⟩
    show (toPys xs).map PyData.list = _
    rw [toPys_of fun x hx => (okD_py (h2 x hx)).1]; rfl
  | n, .dic _ _, h => by cases n <;> cases h
  | n, .cell _, h => by cases n <;> cases h
  | n, .scr _, h => by cases n <;> cases h
  | n, .exn _ _, h => by cases n <;> cases h
end
section
variable {k n : Nat}
theorem depthAll_of {m : Nat} : ∀ {xs : List D}, (∀ x ∈ xs, (pyOf x).depth ≤ m) → PyData.depthAll (pyOfs xs) ≤ m
  | [], _ => Nat.zero_le _
  | x :: xs, h => by
    show max (pyOf x).depth (PyData.depthAll (pyOfs xs)) ≤ m
    exact Nat.max_le.mpr ⟨h x (List.mem_cons_self ..), depthAll_of fun y hy => h y (List.mem_cons_of_mem _ hy)⟩
theorem okD_depth : ∀ {n : Nat} {d : D}, okD k n d = true → (pyOf d).depth ≤ n
  | n, .non, _ => Nat.zero_le _
  | n, .bl _, _ => Nat.zero_le _
  | n, .int _, _ => Nat.zero_le _
  | n, .str s, h => Nat.zero_le _
  | n, .tup xs, h => by
    obtain ⟨m, rfl, h1, h2⟩ := okD_tup h
    exact Nat.succ_le_succ (depthAll_of fun x hx => okD_depth (h2 x hx))
  | n, .lst xs, h => by
    obtain ⟨m, rfl, h1, h2⟩ := okD_lst h
    exact Nat.succ_le_succ (depthAll_of fun x hx => okD_depth (h2 x hx))
  | n, .dic _ _, h => by cases n <;> cases h
  | n, .cell _, h => by cases n <;> cases h
  | n, .scr _, h => by cases n <;> cases h
  | n, .exn _ _, h => by cases n <;> cases h
/-- data that may be compared -/
structure Cmp (d : D) : Prop where
  py : toPy d = some (pyOf d)
  sh : SeqAt.shaped (pyOf d) = true
theorem okD_cmp {d : D} (h : okD k n d = true) (hn : n ≤ 60) : Cmp d := by
  refine ⟨(okD_py h).1, ?_⟩
  have h1 := okD_depth h
  show ((pyOf d).canLay0 && decide ((pyOf d).depth ≤ 64)) = true
  rw [(okD_py h).2, decide_eq_true (by omega)]
  rfl
theorem eEq_of {a b : D} (ha : Cmp a) (hb : Cmp b) : eEq a b = some (PyData.eqv (pyOf a) (pyOf b)) := by
  show (match toPy a, toPy b with
    | some x, some y => if SeqAt.shaped x && SeqAt.shaped y then some (PyData.eqv x y) else none
    | _, _ => none) = _
  rw [ha.py, hb.py]
  show (if (SeqAt.shaped (pyOf a) && SeqAt.shaped (pyOf b)) = true then _ else _) = _
  rw [ha.sh, hb.sh]
  rfl
theorem eEq_int {a b : Int} : eEq (.int a) (.int b) = some (decide (a = b)) := by
  rw [eEq_of ⟨rfl, rfl⟩ ⟨rfl, rfl⟩]
  show some (a == b) = _
  by_cases h : a = b <;> simp [h]
theorem cmp_str {s : Str} (h : s.cps.all (fun c => decide (c < 0x110000)) = true) : Cmp (.str s) := ⟨rfl, by
  show (s.cps.all (fun c => decide (c < 0x110000)) && true) = true
  rw [h]; rfl⟩
theorem eEq_str {a b : Str} (ha : Cmp (.str a)) (hb : Cmp (.str b)) : eEq (.str a) (.str b) = some (decide (a = b)) := by
  rw [eEq_of ha hb]
  show some (a == b) = _
  by_cases h : a = b <;> simp [h]
/-- a list against the empty one -/
theorem eEq_nil {xs : List D} (h : Cmp (.lst xs)) : eEq (.lst xs) (.lst []) = some xs.isEmpty := by
  rw [eEq_of h ⟨rfl, rfl⟩]
  cases xs <;> rfl
theorem eEq_unit {d : D} (h : Cmp d) : eEq d (.tup []) = some (match d with | .tup [] => true | _ => false) := by
  rw [eEq_of h ⟨rfl, rfl⟩]
  cases d <;> first | rfl | (rename_i xs; cases xs <;> rfl)
end
/-! ### comprehensions -/
section
variable {cl : Calls} {env : Env} {M : Mem}
theorem lcL_filter {g : D → Mem → Res (Option D)} (p : D → Bool) : ∀ (xs acc : List D), (∀ x ∈ xs, g x M = ok (if p x = true then some x else none) M) → lcL g xs M acc = ok (acc ++ xs.filter p) M
  | [], acc, _ => by rw [List.filter_nil, List.append_nil]; rfl
  | x :: xs, acc, h => by
    unfold lcL
    rw [h x (List.mem_cons_self ..)]
    cases hp : p x with
    | true =>
      rw [if_pos rfl, List.filter_cons_of_pos hp]
      show lcL g xs M (acc ++ [x]) = _
      rw [lcL_filter p xs _ fun y hy => h y (List.mem_cons_of_mem _ hy), List.append_assoc]; rfl
    | false =>
      rw [if_neg Bool.false_ne_true, List.filter_cons_of_neg (by rw [hp]; exact Bool.false_ne_true)]
      show lcL g xs M acc = _
      exact lcL_filter p xs _ fun y hy => h y (List.mem_cons_of_mem _ hy)
theorem lcL_map {g : D → Mem → Res (Option D)} (f : D → D) : ∀ (xs acc : List D), (∀ x ∈ xs, g x M = ok (some (f x)) M) → lcL g xs M acc = ok (acc ++ xs.map f) M
  | [], acc, _ => by rw [List.map_nil, List.append_nil]; rfl
  | x :: xs, acc, h => by
    unfold lcL
    rw [h x (List.mem_cons_self ..)]
    show lcL g xs M (acc ++ [f x]) = _
    rw [lcL_map f xs _ fun y hy => h y (List.mem_cons_of_mem _ hy), List.append_assoc]; rfl
theorem ev_lcIf_of {e : CE} {i : Nat} {it : CI} {c : CE} {xs : List D} (p : D → Bool) (hi : evI cl it env M = ok xs M) (hl : xs.length ≤ sizeLine)
    (hp : ∀ x ∈ xs, ev cl c (env.set i (some x)) M = ok (.bl (p x)) M) (he : ∀ x ∈ xs, p x = true → ev cl e (env.set i (some x)) M = ok x M) : ev cl (.lcIf e (.nm i) it c) env M = ok (.lst (xs.filter p)) M := by
  unfold ev
  rw [hi]
  show (lcL _ xs M []).bind _ = _
  rw [lcL_filter p]
  · show (if (List.nil ++ xs.filter p).length ≤ sizeLine then ok (D.lst (List.nil ++ xs.filter p)) M else none) = _
    rw [List.nil_append, if_pos (Nat.le_trans (List.length_filter_le ..) hl)]
  · intro x hx
    show (asB (ev cl c ((env.set i none).set i (some x)) M)).bind _ = _
    rw [List.set_set, hp x hx]
    show (if p x = true then (ev cl e ((env.set i none).set i (some x)) M).bind _ else ok none M) = _
    cases z : p x with
    | true => rw [if_pos rfl, if_pos rfl, List.set_set, he x hx z]; rfl
    | false => rw [if_neg Bool.false_ne_true, if_neg Bool.false_ne_true]
theorem ev_lc_of {e : CE} {i : Nat} {it : CI} {xs : List D} (f : D → D) (hi : evI cl it env M = ok xs M) (hl : xs.length ≤ sizeLine)
    (he : ∀ x ∈ xs, ev cl e (env.set i (some x)) M = ok (f x) M) : ev cl (.lc e (.nm i) it) env M = ok (.lst (xs.map f)) M := by
  unfold ev
  rw [hi]
  show (lcL _ xs M []).bind _ = _
  rw [lcL_map f]
  · show (if (List.nil ++ xs.map f).length ≤ sizeLine then ok (D.lst (List.nil ++ xs.map f)) M else none) = _
    rw [List.nil_append, if_pos (by rw [List.length_map]; exact hl)]
  · intro x hx
    show (ev cl e ((env.set i none).set i (some x)) M).bind _ = _
    rw [List.set_set, he x hx]
    rfl
theorem bools_map (p : D → Bool) : ∀ xs : List D, bools (xs.map fun x => .bl (p x)) = some (xs.map p)
  | [] => rfl
  | x :: xs => by
    show (bools (xs.map fun x => D.bl (p x))).map _ = _
    rw [bools_map p xs]; rfl
theorem bAll_map {p : D → Bool} {xs : List D} : eBi M .all [.lst (xs.map fun x => .bl (p x))] = some (.bl (xs.all p)) := by
  show (bools (xs.map fun x => D.bl (p x))).map (fun bs => D.bl (bs.all id)) = _
  rw [bools_map, Option.map_some]
  congr 2
  rw [List.all_map]; rfl
@[simp] theorem evI_seq {e : CE} : evI cl (.seq e) env M = (ev cl e env M).bind fun x M => match x with
    | .lst xs => ok xs M
    | .tup xs => ok xs M
    | _ => none := by unfold evI; rfl
end
end Rf
end T_PlainD
section T_core
set_option Elab.async false
set_option linter.all false
set_option maxRecDepth 100000
namespace Rf
namespace KK
open PySem PySem.Spec PyProof.Rows L2
/-! ### the program's core (printed by tr.py) -/
def b__law_jar : List CS :=
  [.asg (.nm 2) (.ite (.cmp .lt (.var 1) (.bi .len (.cons (.var 0) .nil))) (.bi .abs (.cons (.bi .int (.cons (.idx (.var 0) (.var 1)) .nil)) .nil)) (.bin .add (.bin .mul (.con (.int (43))) (.var 1)) (.con (.int (17))))),
    .ret (.lstM (.cons (.ite (.cmp .ge (.var 2) (.bin .pow (.con (.int (10))) (.con (.int (18))))) (.var 2) (.con (.int (0)))) (.cons (.bin .mod (.bi .int (.cons (.bin .add (.bin .add (.bin .mod (.bi .int (.cons (.var 2) .nil)) (.con (.int (2147482943)))) (.bin .mul (.con (.int (60017))) (.var 1))) (.con (.int (83)))) .nil)) (.con (.int (2147482943)))) .nil)))]
def b__law_dip : List CS :=
  [.ite (.cmp .gt (.idx (.var 0) (.con (.int (0)))) (.con (.int (0))))
    [.asg (.nm 2) (.bin .mod (.bi .int (.cons (.idx (.var 0) (.con (.int (0)))) .nil)) (.var 1)),
    .setI (.var 0) (.con (.int (0))) (.bin .fdiv (.bi .int (.cons (.idx (.var 0) (.con (.int (0)))) .nil)) (.var 1)),
    .ret (.var 2)]
    [],
    .setI (.var 0) (.con (.int (1))) (.bin .mod (.bi .int (.cons (.bin .add (.bin .mul (.idx (.var 0) (.con (.int (1)))) (.con (.int (39373)))) (.con (.int (1009)))) .nil)) (.con (.int (2147482943)))),
    .asg (.nm 3) (.bin .mod (.bin .mul (.bi .int (.cons (.idx (.var 0) (.con (.int (1)))) .nil)) (.bin .add (.bin .fdiv (.bi .int (.cons (.idx (.var 0) (.con (.int (1)))) .nil)) (.con (.int (23)))) (.con (.int (29))))) (.con (.int (2147482937)))),
    .ret (.bin .mod (.bi .int (.cons (.bin .fdiv (.bi .int (.cons (.var 3) .nil)) (.con (.int (29)))) .nil)) (.var 1))]
def b__law_any_of : List CS :=
  [.ret (.idx (.var 1) (.call 1 (.cons (.var 0) (.cons (.bi .len (.cons (.var 1) .nil)) .nil)) []))]
def b__law_all_errors : List CS :=
  [.asg (.nm 2) (.lst (.cons (.mkE "InvalidWorld" (.var 0)) (.cons (.mkE "InvalidScript" (.var 0)) (.cons (.mkE "InvalidStep" (.var 0)) (.cons (.mkE "InvalidValues" (.var 0)) (.cons (.mkE "InvalidTold" (.var 0)) .nil)))))),
    .asg (.nm 2) (.bin .add (.var 2) (.lst (.cons (.mkE "InvalidName" (.var 0)) (.cons (.mkE "InvalidForm" (.var 0)) (.cons (.mkE "InvalidNumber" (.var 0)) (.cons (.mkE "InvalidWord" (.var 0)) (.cons (.mkE "InvalidWay" (.var 0)) .nil))))))),
    .ret (.bin .add (.var 2) (.lst (.cons (.mkE "InvalidPlace" (.var 0)) (.cons (.mkE "Unfit" (.var 0)) (.cons (.mkE "Ended" (.var 0)) (.cons (.mkE "NothingToUndo" (.var 0)) (.cons (.mkL "InvalidText" (.var 1)) .nil)))))))]
def b__law_classes : List CS :=
  [.asg (.nm 1) (.lst (.cons (.isE (.var 0) "InvalidWorld" [("InvalidWorld", true), ("InvalidScript", false), ("InvalidStep", false), ("InvalidValues", false), ("InvalidTold", false), ("InvalidName", false), ("InvalidForm", false), ("InvalidNumber", false), ("InvalidWord", false), ("InvalidWay", false), ("InvalidPlace", false), ("Unfit", false), ("Ended", false), ("NothingToUndo", false), ("InvalidText", false)]) (.cons (.isE (.var 0) "InvalidScript" [("InvalidWorld", false), ("InvalidScript", true), ("InvalidStep", false), ("InvalidValues", false), ("InvalidTold", false), ("InvalidName", false), ("InvalidForm", false), ("InvalidNumber", false), ("InvalidWord", false), ("InvalidWay", false), ("InvalidPlace", false), ("Unfit", false), ("Ended", false), ("NothingToUndo", false), ("InvalidText", false)]) (.cons (.isE (.var 0) "InvalidStep" [("InvalidWorld", false), ("InvalidScript", false), ("InvalidStep", true), ("InvalidValues", false), ("InvalidTold", false), ("InvalidName", false), ("InvalidForm", false), ("InvalidNumber", false), ("InvalidWord", false), ("InvalidWay", false), ("InvalidPlace", false), ("Unfit", false), ("Ended", false), ("NothingToUndo", false), ("InvalidText", false)]) .nil)))),
    .asg (.nm 1) (.bin .add (.var 1) (.lst (.cons (.isE (.var 0) "InvalidValues" [("InvalidWorld", false), ("InvalidScript", false), ("InvalidStep", false), ("InvalidValues", true), ("InvalidTold", false), ("InvalidName", false), ("InvalidForm", false), ("InvalidNumber", false), ("InvalidWord", false), ("InvalidWay", false), ("InvalidPlace", false), ("Unfit", false), ("Ended", false), ("NothingToUndo", false), ("InvalidText", false)]) (.cons (.isE (.var 0) "InvalidTold" [("InvalidWorld", false), ("InvalidScript", false), ("InvalidStep", false), ("InvalidValues", false), ("InvalidTold", true), ("InvalidName", false), ("InvalidForm", false), ("InvalidNumber", false), ("InvalidWord", false), ("InvalidWay", false), ("InvalidPlace", false), ("Unfit", false), ("Ended", false), ("NothingToUndo", false), ("InvalidText", false)]) (.cons (.isE (.var 0) "InvalidName" [("InvalidWorld", false), ("InvalidScript", false), ("InvalidStep", false), ("InvalidValues", false), ("InvalidTold", false), ("InvalidName", true), ("InvalidForm", false), ("InvalidNumber", false), ("InvalidWord", false), ("InvalidWay", false), ("InvalidPlace", false), ("Unfit", false), ("Ended", false), ("NothingToUndo", false), ("InvalidText", false)]) .nil))))),
    .asg (.nm 1) (.bin .add (.var 1) (.lst (.cons (.isE (.var 0) "InvalidForm" [("InvalidWorld", false), ("InvalidScript", false), ("InvalidStep", false), ("InvalidValues", false), ("InvalidTold", false), ("InvalidName", false), ("InvalidForm", true), ("InvalidNumber", false), ("InvalidWord", false), ("InvalidWay", false), ("InvalidPlace", false), ("Unfit", false), ("Ended", false), ("NothingToUndo", false), ("InvalidText", false)]) (.cons (.isE (.var 0) "InvalidNumber" [("InvalidWorld", false), ("InvalidScript", false), ("InvalidStep", false), ("InvalidValues", false), ("InvalidTold", false), ("InvalidName", false), ("InvalidForm", false), ("InvalidNumber", true), ("InvalidWord", false), ("InvalidWay", false), ("InvalidPlace", false), ("Unfit", false), ("Ended", false), ("NothingToUndo", false), ("InvalidText", false)]) (.cons (.isE (.var 0) "InvalidWord" [("InvalidWorld", false), ("InvalidScript", false), ("InvalidStep", false), ("InvalidValues", false), ("InvalidTold", false), ("InvalidName", false), ("InvalidForm", false), ("InvalidNumber", false), ("InvalidWord", true), ("InvalidWay", false), ("InvalidPlace", false), ("Unfit", false), ("Ended", false), ("NothingToUndo", false), ("InvalidText", false)]) .nil))))),
    .asg (.nm 1) (.bin .add (.var 1) (.lst (.cons (.isE (.var 0) "InvalidWay" [("InvalidWorld", false), ("InvalidScript", false), ("InvalidStep", false), ("InvalidValues", false), ("InvalidTold", false), ("InvalidName", false), ("InvalidForm", false), ("InvalidNumber", false), ("InvalidWord", false), ("InvalidWay", true), ("InvalidPlace", false), ("Unfit", false), ("Ended", false), ("NothingToUndo", false), ("InvalidText", false)]) (.cons (.isE (.var 0) "InvalidPlace" [("InvalidWorld", false), ("InvalidScript", false), ("InvalidStep", false), ("InvalidValues", false), ("InvalidTold", false), ("InvalidName", false), ("InvalidForm", false), ("InvalidNumber", false), ("InvalidWord", false), ("InvalidWay", false), ("InvalidPlace", true), ("Unfit", false), ("Ended", false), ("NothingToUndo", false), ("InvalidText", false)]) (.cons (.isE (.var 0) "Unfit" [("InvalidWorld", false), ("InvalidScript", false), ("InvalidStep", false), ("InvalidValues", false), ("InvalidTold", false), ("InvalidName", false), ("InvalidForm", false), ("InvalidNumber", false), ("InvalidWord", false), ("InvalidWay", false), ("InvalidPlace", false), ("Unfit", true), ("Ended", false), ("NothingToUndo", false), ("InvalidText", false)]) .nil))))),
    .ret (.bin .add (.var 1) (.lst (.cons (.isE (.var 0) "Ended" [("InvalidWorld", false), ("InvalidScript", false), ("InvalidStep", false), ("InvalidValues", false), ("InvalidTold", false), ("InvalidName", false), ("InvalidForm", false), ("InvalidNumber", false), ("InvalidWord", false), ("InvalidWay", false), ("InvalidPlace", false), ("Unfit", false), ("Ended", true), ("NothingToUndo", false), ("InvalidText", false)]) (.cons (.isE (.var 0) "NothingToUndo" [("InvalidWorld", false), ("InvalidScript", false), ("InvalidStep", false), ("InvalidValues", false), ("InvalidTold", false), ("InvalidName", false), ("InvalidForm", false), ("InvalidNumber", false), ("InvalidWord", false), ("InvalidWay", false), ("InvalidPlace", false), ("Unfit", false), ("Ended", false), ("NothingToUndo", true), ("InvalidText", false)]) (.cons (.isE (.var 0) "InvalidText" [("InvalidWorld", false), ("InvalidScript", false), ("InvalidStep", false), ("InvalidValues", false), ("InvalidTold", false), ("InvalidName", false), ("InvalidForm", false), ("InvalidNumber", false), ("InvalidWord", false), ("InvalidWay", false), ("InvalidPlace", false), ("Unfit", false), ("Ended", false), ("NothingToUndo", false), ("InvalidText", true)]) .nil)))))]
def b_law : List CS :=
  [.for_ (.nm 1) (.rng (.bi .max2 (.cons (.con (.int (3))) (.cons (.bi .min2 (.cons (.con (.int (6))) (.cons (.bin .add (.bi .len (.cons (.var 0) .nil)) (.con (.int (2)))) .nil))) .nil))))
    [.asg (.nm 2) (.call 0 (.cons (.var 0) (.cons (.var 1) .nil)) []),
    .asg (.tp (.cons (.nm 5) (.cons (.nm 6) .nil))) (.tup (.cons (.call 2 (.cons (.var 2) (.cons (.lst (.cons (.con (.str "")) (.cons (.con (.str "a message")) (.cons (.con (.str "x y")) .nil)))) .nil)) []) (.cons (.call 1 (.cons (.var 2) (.cons (.con (.int (1000))) .nil)) []) .nil))),
    .asg (.nm 3) (.call 3 (.cons (.var 5) (.cons (.var 6) .nil)) []),
    .for_ (.nm 4) (.rng (.bi .len (.cons (.var 3) .nil)))
    [.ite (.cmp .ne (.call 4 (.cons (.idx (.var 3) (.var 4)) .nil) []) (.lc (.cmp .eq (.var 7) (.var 4)) (.nm 7) (.rng (.bi .len (.cons (.var 3) .nil)))))
    [.ret (.con (.bl false))]
    [],
    .ite (.or (.not (.isE (.idx (.var 3) (.var 4)) "LengthError" [("InvalidWorld", true), ("InvalidScript", true), ("InvalidStep", true), ("InvalidValues", true), ("InvalidTold", true), ("InvalidName", true), ("InvalidForm", true), ("InvalidNumber", true), ("InvalidWord", true), ("InvalidWay", true), ("InvalidPlace", true), ("Unfit", true), ("Ended", true), ("NothingToUndo", true), ("InvalidText", true)])) (.not (.isB (.idx (.var 3) (.var 4)) ["InvalidWorld", "InvalidScript", "InvalidStep", "InvalidValues", "InvalidTold", "InvalidName", "InvalidForm", "InvalidNumber", "InvalidWord", "InvalidWay", "InvalidPlace", "Unfit", "Ended", "NothingToUndo", "InvalidText"])))
    [.ret (.con (.bl false))]
    []],
    .ite (.cmp .ne (.lineE (.idx (.var 3) (.con (.int (14)))) ["InvalidText"]) (.var 6))
    [.ret (.con (.bl false))]
    []],
    .ret (.con (.bl true))]
def top (i : Nat) : Stmt := PySem.Challenge.pw_copiedlengths_k17_errors_and_their_class.main.body.getD i (.Pass ⟨0, 0, 0, 0⟩)
def f__law_jar : CF := ⟨"_law_jar", defArgs (top 18), defBody (top 18), defScope (top 18), ["_law_script", "_law_k"], ["_law_script", "_law_k", "_law_cell"], b__law_jar, [(2, [])], []⟩
def f__law_dip : CF := ⟨"_law_dip", defArgs (top 19), defBody (top 19), defScope (top 19), ["_law_jar_here", "_law_many"], ["_law_jar_here", "_law_many", "_law_found", "_law_stirred"], b__law_dip, [(2, [])], []⟩
def f__law_any_of : CF := ⟨"_law_any_of", defArgs (top 20), defBody (top 20), defScope (top 20), ["_law_jar_here", "_law_some"], ["_law_jar_here", "_law_some"], b__law_any_of, [(2, [])], []⟩
def f__law_all_errors : CF := ⟨"_law_all_errors", defArgs (top 21), defBody (top 21), defScope (top 21), ["_law_text", "_law_number"], ["_law_text", "_law_number", "_law_found"], b__law_all_errors, [(2, [])], []⟩
def f__law_classes : CF := ⟨"_law_classes", defArgs (top 22), defBody (top 22), defScope (top 22), ["_law_error"], ["_law_error", "_law_found"], b__law_classes, [(1, [])], []⟩
def f_law : CF := ⟨"law", defArgs (top 23), defBody (top 23), defScope (top 23), ["_law_script"], ["_law_script", "_law_k", "_law_jar_here", "_law_some", "_law_at", "_law_text", "_law_number", "_law_one"], b_law, [(1, [])], []⟩
def fns : List CF := [f__law_jar, f__law_dip, f__law_any_of, f__law_all_errors, f__law_classes, f_law]
def kits0 : List (Str × Str × Bool) := [("InvalidWorld", "InvalidWorld", true), ("InvalidScript", "InvalidWorld", false), ("InvalidStep", "InvalidWorld", false), ("InvalidValues", "InvalidWorld", false), ("InvalidTold", "InvalidWorld", false), ("InvalidName", "InvalidWorld", false), ("InvalidForm", "InvalidWorld", false), ("InvalidNumber", "InvalidWorld", false), ("InvalidWord", "InvalidWorld", false), ("InvalidWay", "InvalidWorld", false), ("InvalidPlace", "InvalidWorld", false), ("Unfit", "InvalidWorld", false), ("Ended", "InvalidWorld", false), ("NothingToUndo", "InvalidWorld", false), ("InvalidText", "InvalidWorld", false), ("InvalidWorld", "InvalidScript", false), ("InvalidScript", "InvalidScript", true), ("InvalidStep", "InvalidScript", false), ("InvalidValues", "InvalidScript", false), ("InvalidTold", "InvalidScript", false), ("InvalidName", "InvalidScript", false), ("InvalidForm", "InvalidScript", false), ("InvalidNumber", "InvalidScript", false), ("InvalidWord", "InvalidScript", false), ("InvalidWay", "InvalidScript", false), ("InvalidPlace", "InvalidScript", false), ("Unfit", "InvalidScript", false), ("Ended", "InvalidScript", false), ("NothingToUndo", "InvalidScript", false), ("InvalidText", "InvalidScript", false)]
def kits1 : List (Str × Str × Bool) := [("InvalidWorld", "InvalidStep", false), ("InvalidScript", "InvalidStep", false), ("InvalidStep", "InvalidStep", true), ("InvalidValues", "InvalidStep", false), ("InvalidTold", "InvalidStep", false), ("InvalidName", "InvalidStep", false), ("InvalidForm", "InvalidStep", false), ("InvalidNumber", "InvalidStep", false), ("InvalidWord", "InvalidStep", false), ("InvalidWay", "InvalidStep", false), ("InvalidPlace", "InvalidStep", false), ("Unfit", "InvalidStep", false), ("Ended", "InvalidStep", false), ("NothingToUndo", "InvalidStep", false), ("InvalidText", "InvalidStep", false), ("InvalidWorld", "InvalidValues", false), ("InvalidScript", "InvalidValues", false), ("InvalidStep", "InvalidValues", false), ("InvalidValues", "InvalidValues", true), ("InvalidTold", "InvalidValues", false), ("InvalidName", "InvalidValues", false), ("InvalidForm", "InvalidValues", false), ("InvalidNumber", "InvalidValues", false), ("InvalidWord", "InvalidValues", false), ("InvalidWay", "InvalidValues", false), ("InvalidPlace", "InvalidValues", false), ("Unfit", "InvalidValues", false), ("Ended", "InvalidValues", false), ("NothingToUndo", "InvalidValues", false), ("InvalidText", "InvalidValues", false)]
def kits2 : List (Str × Str × Bool) := [("InvalidWorld", "InvalidTold", false), ("InvalidScript", "InvalidTold", false), ("InvalidStep", "InvalidTold", false), ("InvalidValues", "InvalidTold", false), ("InvalidTold", "InvalidTold", true), ("InvalidName", "InvalidTold", false), ("InvalidForm", "InvalidTold", false), ("InvalidNumber", "InvalidTold", false), ("InvalidWord", "InvalidTold", false), ("InvalidWay", "InvalidTold", false), ("InvalidPlace", "InvalidTold", false), ("Unfit", "InvalidTold", false), ("Ended", "InvalidTold", false), ("NothingToUndo", "InvalidTold", false), ("InvalidText", "InvalidTold", false), ("InvalidWorld", "InvalidName", false), ("InvalidScript", "InvalidName", false), ("InvalidStep", "InvalidName", false), ("InvalidValues", "InvalidName", false), ("InvalidTold", "InvalidName", false), ("InvalidName", "InvalidName", true), ("InvalidForm", "InvalidName", false), ("InvalidNumber", "InvalidName", false), ("InvalidWord", "InvalidName", false), ("InvalidWay", "InvalidName", false), ("InvalidPlace", "InvalidName", false), ("Unfit", "InvalidName", false), ("Ended", "InvalidName", false), ("NothingToUndo", "InvalidName", false), ("InvalidText", "InvalidName", false)]
def kits3 : List (Str × Str × Bool) := [("InvalidWorld", "InvalidForm", false), ("InvalidScript", "InvalidForm", false), ("InvalidStep", "InvalidForm", false), ("InvalidValues", "InvalidForm", false), ("InvalidTold", "InvalidForm", false), ("InvalidName", "InvalidForm", false), ("InvalidForm", "InvalidForm", true), ("InvalidNumber", "InvalidForm", false), ("InvalidWord", "InvalidForm", false), ("InvalidWay", "InvalidForm", false), ("InvalidPlace", "InvalidForm", false), ("Unfit", "InvalidForm", false), ("Ended", "InvalidForm", false), ("NothingToUndo", "InvalidForm", false), ("InvalidText", "InvalidForm", false), ("InvalidWorld", "InvalidNumber", false), ("InvalidScript", "InvalidNumber", false), ("InvalidStep", "InvalidNumber", false), ("InvalidValues", "InvalidNumber", false), ("InvalidTold", "InvalidNumber", false), ("InvalidName", "InvalidNumber", false), ("InvalidForm", "InvalidNumber", false), ("InvalidNumber", "InvalidNumber", true), ("InvalidWord", "InvalidNumber", false), ("InvalidWay", "InvalidNumber", false), ("InvalidPlace", "InvalidNumber", false), ("Unfit", "InvalidNumber", false), ("Ended", "InvalidNumber", false), ("NothingToUndo", "InvalidNumber", false), ("InvalidText", "InvalidNumber", false)]
def kits4 : List (Str × Str × Bool) := [("InvalidWorld", "InvalidWord", false), ("InvalidScript", "InvalidWord", false), ("InvalidStep", "InvalidWord", false), ("InvalidValues", "InvalidWord", false), ("InvalidTold", "InvalidWord", false), ("InvalidName", "InvalidWord", false), ("InvalidForm", "InvalidWord", false), ("InvalidNumber", "InvalidWord", false), ("InvalidWord", "InvalidWord", true), ("InvalidWay", "InvalidWord", false), ("InvalidPlace", "InvalidWord", false), ("Unfit", "InvalidWord", false), ("Ended", "InvalidWord", false), ("NothingToUndo", "InvalidWord", false), ("InvalidText", "InvalidWord", false), ("InvalidWorld", "InvalidWay", false), ("InvalidScript", "InvalidWay", false), ("InvalidStep", "InvalidWay", false), ("InvalidValues", "InvalidWay", false), ("InvalidTold", "InvalidWay", false), ("InvalidName", "InvalidWay", false), ("InvalidForm", "InvalidWay", false), ("InvalidNumber", "InvalidWay", false), ("InvalidWord", "InvalidWay", false), ("InvalidWay", "InvalidWay", true), ("InvalidPlace", "InvalidWay", false), ("Unfit", "InvalidWay", false), ("Ended", "InvalidWay", false), ("NothingToUndo", "InvalidWay", false), ("InvalidText", "InvalidWay", false)]
def kits5 : List (Str × Str × Bool) := [("InvalidWorld", "InvalidPlace", false), ("InvalidScript", "InvalidPlace", false), ("InvalidStep", "InvalidPlace", false), ("InvalidValues", "InvalidPlace", false), ("InvalidTold", "InvalidPlace", false), ("InvalidName", "InvalidPlace", false), ("InvalidForm", "InvalidPlace", false), ("InvalidNumber", "InvalidPlace", false), ("InvalidWord", "InvalidPlace", false), ("InvalidWay", "InvalidPlace", false), ("InvalidPlace", "InvalidPlace", true), ("Unfit", "InvalidPlace", false), ("Ended", "InvalidPlace", false), ("NothingToUndo", "InvalidPlace", false), ("InvalidText", "InvalidPlace", false), ("InvalidWorld", "Unfit", false), ("InvalidScript", "Unfit", false), ("InvalidStep", "Unfit", false), ("InvalidValues", "Unfit", false), ("InvalidTold", "Unfit", false), ("InvalidName", "Unfit", false), ("InvalidForm", "Unfit", false), ("InvalidNumber", "Unfit", false), ("InvalidWord", "Unfit", false), ("InvalidWay", "Unfit", false), ("InvalidPlace", "Unfit", false), ("Unfit", "Unfit", true), ("Ended", "Unfit", false), ("NothingToUndo", "Unfit", false), ("InvalidText", "Unfit", false)]
def kits6 : List (Str × Str × Bool) := [("InvalidWorld", "Ended", false), ("InvalidScript", "Ended", false), ("InvalidStep", "Ended", false), ("InvalidValues", "Ended", false), ("InvalidTold", "Ended", false), ("InvalidName", "Ended", false), ("InvalidForm", "Ended", false), ("InvalidNumber", "Ended", false), ("InvalidWord", "Ended", false), ("InvalidWay", "Ended", false), ("InvalidPlace", "Ended", false), ("Unfit", "Ended", false), ("Ended", "Ended", true), ("NothingToUndo", "Ended", false), ("InvalidText", "Ended", false), ("InvalidWorld", "NothingToUndo", false), ("InvalidScript", "NothingToUndo", false), ("InvalidStep", "NothingToUndo", false), ("InvalidValues", "NothingToUndo", false), ("InvalidTold", "NothingToUndo", false), ("InvalidName", "NothingToUndo", false), ("InvalidForm", "NothingToUndo", false), ("InvalidNumber", "NothingToUndo", false), ("InvalidWord", "NothingToUndo", false), ("InvalidWay", "NothingToUndo", false), ("InvalidPlace", "NothingToUndo", false), ("Unfit", "NothingToUndo", false), ("Ended", "NothingToUndo", false), ("NothingToUndo", "NothingToUndo", true), ("InvalidText", "NothingToUndo", false)]
def kits7 : List (Str × Str × Bool) := [("InvalidWorld", "InvalidText", false), ("InvalidScript", "InvalidText", false), ("InvalidStep", "InvalidText", false), ("InvalidValues", "InvalidText", false), ("InvalidTold", "InvalidText", false), ("InvalidName", "InvalidText", false), ("InvalidForm", "InvalidText", false), ("InvalidNumber", "InvalidText", false), ("InvalidWord", "InvalidText", false), ("InvalidWay", "InvalidText", false), ("InvalidPlace", "InvalidText", false), ("Unfit", "InvalidText", false), ("Ended", "InvalidText", false), ("NothingToUndo", "InvalidText", false), ("InvalidText", "InvalidText", true), ("InvalidWorld", "LengthError", true), ("InvalidScript", "LengthError", true), ("InvalidStep", "LengthError", true), ("InvalidValues", "LengthError", true), ("InvalidTold", "LengthError", true), ("InvalidName", "LengthError", true), ("InvalidForm", "LengthError", true), ("InvalidNumber", "LengthError", true), ("InvalidWord", "LengthError", true), ("InvalidWay", "LengthError", true), ("InvalidPlace", "LengthError", true), ("Unfit", "LengthError", true), ("Ended", "LengthError", true), ("NothingToUndo", "LengthError", true), ("InvalidText", "LengthError", true)]
def gi : Gi := { fns := fns, txts := [], nums := [], tups := [], excs := ["LengthError", "InvalidWorld", "InvalidScript", "InvalidStep", "InvalidValues", "InvalidTold", "InvalidName", "InvalidForm", "InvalidNumber", "InvalidWord", "InvalidWay", "InvalidPlace", "Unfit", "Ended", "NothingToUndo"], frees := ["len", "abs", "int", "super", "isinstance", "range", "max", "min", "ValueError"], lins := [⟨"InvalidText", "InvalidText.__init__", ⟨34, 17, 34, 21⟩, ⟨34, 23, 34, 27⟩, ⟨⟨35, 8, 35, 13⟩, ⟨35, 8, 35, 15⟩, ⟨35, 8, 35, 24⟩, ⟨35, 25, 35, 50⟩, ⟨35, 8, 35, 51⟩, ⟨35, 8, 35, 51⟩, ⟨36, 8, 36, 12⟩, ⟨36, 8, 36, 17⟩, ⟨36, 20, 36, 24⟩, ⟨36, 8, 36, 24⟩, "no script is written so", 0⟩⟩], file := "/claim/cut.py", vals := ["InvalidWorld", "InvalidScript", "InvalidStep", "InvalidValues", "InvalidTold", "InvalidName", "InvalidForm", "InvalidNumber", "InvalidWord", "InvalidWay", "InvalidPlace", "Unfit", "Ended", "NothingToUndo", "InvalidText"], kits := kits0 ++ kits1 ++ kits2 ++ kits3 ++ kits4 ++ kits5 ++ kits6 ++ kits7 }

end KK
end Rf
end T_core
section T_K17A
set_option Elab.async false
set_option linter.all false
set_option maxRecDepth 100000
set_option maxHeartbeats 4000000
section S_K17Ma
namespace Rf
namespace KK
open PySem L2
/-! ### numbers -/
theorem log_small {x : Int} (h : x.natAbs < 2 ^ 250) : x.natAbs.log2 < 9000 := by
  by_cases h0 : x.natAbs = 0
  · rw [h0]; decide
  · have := (Nat.log2_lt h0).mpr h
    omega
theorem bits_small {x : Int} (h : x.natAbs < 2 ^ 250) : bitsOk x = true := decide_eq_true (Nat.lt_trans (log_small h) (by decide))
theorem eMul {M : Mem} {i j : Int} (h1 : i.natAbs < 2 ^ 250) (h2 : j.natAbs < 2 ^ 250) : eOp M .mul (.int i) (.int j) = some (.int (i * j)) := by
  show (if (bitsOk i && bitsOk j) = true then _ else _) = _
  rw [bits_small h1, bits_small h2]; rfl
theorem eDiv {M : Mem} {i j : Int} (h : 0 < j) (hs : j.natAbs < 2 ^ 250) : eOp M .fdiv (.int i) (.int j) = some (.int (i / j)) := if_pos ⟨h, log_small hs⟩
theorem eMod {M : Mem} {i j : Int} (h : 0 < j) : eOp M .mod (.int i) (.int j) = some (.int (i % j)) := if_pos h
@[simp] theorem eAdd {M : Mem} {i j : Int} : eOp M .add (.int i) (.int j) = some (.int (i + j)) := rfl
@[simp] theorem eSub {M : Mem} {i j : Int} : eOp M .sub (.int i) (.int j) = some (.int (i - j)) := rfl
@[simp] theorem cLt {i j : Int} : eCo .lt (.int i) (.int j) = some (decide (i < j)) := rfl
@[simp] theorem cLe {i j : Int} : eCo .le (.int i) (.int j) = some (decide (i ≤ j)) := rfl
@[simp] theorem cGt {i j : Int} : eCo .gt (.int i) (.int j) = some (decide (j < i)) := rfl
@[simp] theorem cGe {i j : Int} : eCo .ge (.int i) (.int j) = some (decide (j ≤ i)) := rfl
@[simp] theorem cEq {i j : Int} : eCo .eq (.int i) (.int j) = some (decide (i = j)) := eEq_int
@[simp] theorem cNe {i j : Int} : eCo .ne (.int i) (.int j) = some (!decide (i = j)) := by show (eEq (.int i) (.int j)).map not = _; rw [eEq_int]; rfl
@[simp] theorem bInt1 {M : Mem} {i : Int} : eBi M .int [.int i] = some (.int i) := rfl
@[simp] theorem bLenT {M : Mem} {xs : List D} : eBi M .len [.tup xs] = some (.int xs.length) := rfl
@[simp] theorem bLenL {M : Mem} {xs : List D} : eBi M .len [.lst xs] = some (.int xs.length) := rfl
@[simp] theorem bAbs1 {M : Mem} {i : Int} : eBi M .abs [.int i] = some (.int (if i < 0 then -i else i)) := rfl
theorem absNN (a : Int) : 0 ≤ (if a < 0 then -a else a) := by split <;> omega
theorem absGcd (a b : Int) : Int.gcd (if a < 0 then -a else a) b = Int.gcd a b := by
  split
  · exact Int.neg_gcd
  · rfl
theorem gcdPos {a b : Int} (h : 0 < b) : 0 < (Int.gcd a b : Int) := by
  have := Int.gcd_pos_of_ne_zero_right a (show b ≠ 0 by omega)
  omega
theorem gcdLe {a b : Int} (h : 0 < b) : (Int.gcd a b : Int).natAbs ≤ b.natAbs := by
  show Int.gcd a b ≤ _
  exact Nat.le_of_dvd (by omega) (Int.gcd_dvd_natAbs_right a b)
/-- a fraction in lowest terms -/
def low (a b : Int) : D := .tup [.int (a / (Int.gcd a b : Int)), .int (b / (Int.gcd a b : Int))]
theorem gcdStep {a b : Int} (h0 : 0 ≤ a) (h1 : 0 ≤ b) : Int.gcd b (a % b) = Int.gcd a b := by
  obtain ⟨a', rfl⟩ := Int.eq_ofNat_of_zero_le h0
  obtain ⟨b', rfl⟩ := Int.eq_ofNat_of_zero_le h1
  show Nat.gcd b' (a' % b') = Nat.gcd a' b'
  rw [Nat.gcd_comm, ← Nat.gcd_rec, Nat.gcd_comm]
theorem turn1 {c : Env → Mem → Res D} {b : Env → Mem → SRes} {n : Nat} {env e : Env} {M M' : Mem} {r : Fl × Env × Mem} (hc : c env M = ok (.bl true) M) (hb : b env M = some (.nx, e, M')) (h : turns c b n e M' = some r) : turns c b (n + 1) env M = some r := by
  show (asB (c env M)).to env _ = _
  rw [hc]
  show (match b env M with
    | some (.nx, e, M) => turns c b n e M
    | some (.cont, e, M) => turns c b n e M
    | some (.brk, e, M) => some (.nx, e, M)
    | r => r) = _
  rw [hb]
  exact h
theorem turn0 {c : Env → Mem → Res D} {b : Env → Mem → SRes} {env : Env} {M : Mem} (hc : c env M = ok (.bl false) M) : turns c b 1 env M = some (.nx, env, M) := by
  show (asB (c env M)).to env _ = _
  rw [hc]
  rfl
theorem two : 2 ≤ sizeLine := line1 2 (by decide)
theorem common_turns (cl : Calls) (M : Mem) : ∀ (k : Nat) (a b : Int), 0 ≤ a → 0 ≤ b → b.toNat < k → ∃ n, turns (ev cl (.cmp .gt (.var 1) (.con (.int (0))))) (exs cl [.asg (.tp (.cons (.nm 0) (.cons (.nm 1) .nil))) (.tup (.cons (.var 1) (.cons (.bin .mod (.var 0) (.var 1)) .nil)))]) n [some (.int a), some (.int b)] M = some (.nx, [some (.int (Int.gcd a b)), some (.int 0)], M)
  | 0, a, b, h0, h1, h => by omega
  | k + 1, a, b, h0, h1, h => by
    by_cases hb : 0 < b
    · have hm : 0 ≤ a % b := Int.emod_nonneg _ (by omega)
      have hm2 : a % b < b := Int.emod_lt_of_pos _ hb
      obtain ⟨n, ih⟩ := common_turns cl M k b (a % b) h1 hm (by omega)
      rw [gcdStep h0 h1] at ih
      exact ⟨n + 1, turn1 (by simp [hb]) (by simp [eMod hb, two]) ih⟩
    · have hb0 : b = 0 := by omega
      subst hb0
      refine ⟨1, ?_⟩
      have : (Int.gcd a 0 : Int) = a := by rw [Int.gcd_zero_right]; omega
      rw [this]
      exact turn0 (by simp)
theorem lawlow_turns (cl : Calls) (M : Mem) (x y : D) : ∀ (k : Nat) (a b : Int), 0 ≤ a → 0 ≤ b → b.toNat < k → ∃ n, turns (ev cl (.cmp .ne (.var 3) (.con (.int (0))))) (exs cl [.asg (.tp (.cons (.nm 2) (.cons (.nm 3) .nil))) (.tup (.cons (.var 3) (.cons (.bin .mod (.var 2) (.var 3)) .nil)))]) n [some x, some y, some (.int a), some (.int b)] M = some (.nx, [some x, some y, some (.int (Int.gcd a b)), some (.int 0)], M)
  | 0, a, b, h0, h1, h => by omega
  | k + 1, a, b, h0, h1, h => by
    by_cases hb : 0 < b
    · have hm : 0 ≤ a % b := Int.emod_nonneg _ (by omega)
      have hm2 : a % b < b := Int.emod_lt_of_pos _ hb
      obtain ⟨n, ih⟩ := lawlow_turns cl M x y k b (a % b) h1 hm (by omega)
      rw [gcdStep h0 h1] at ih
      have hn : ¬ b = 0 := by omega
      exact ⟨n + 1, turn1 (by simp [hn]) (by simp [eMod hb, two]) ih⟩
    · have hb0 : b = 0 := by omega
      subst hb0
      refine ⟨1, ?_⟩
      have : (Int.gcd a 0 : Int) = a := by rw [Int.gcd_zero_right]; omega
      rw [this]
      exact turn0 (by simp)
end KK
end Rf

end S_K17Ma
section S_K17Nf
namespace Rf
namespace KK
open PySem L2
/-! ### draws -/
/-- the memory with a jar in cell c -/
def mj (M : Mem) (c : Nat) (q : Int × Int) : Mem := M.set c (.lst [.int q.1, .int q.2])
def jok (q : Int × Int) : Prop := 0 ≤ q.1 ∧ 0 ≤ q.2 ∧ q.2 < 2147482943
theorem mj_len {M : Mem} {c : Nat} {q : Int × Int} : (mj M c q).length = M.length := by unfold mj; rw [List.length_set]
theorem mj_at {M : Mem} {c : Nat} {q : Int × Int} (h : c < M.length) : (mj M c q)[c]? = some (.lst [.int q.1, .int q.2]) := by unfold mj; rw [List.getElem?_set_self h]
theorem mj_set {M : Mem} {c : Nat} {q r : Int × Int} : (mj M c q).set c (.lst [.int r.1, .int r.2]) = mj M c r := by unfold mj; rw [List.set_set]
theorem call_exL {T : Tab} {n f : Nat} {fd : Fd} {args : List D} {M M' : Mem} {d : D} (h : T f = some fd) (ha : args.length = fd.arity) (hl : M'.length = M.length)
    (hb : ∃ e, exs (callN T n) fd.body (args.map some ++ List.replicate (fd.slots - args.length) none) M = some (.ret d, e, M')) : callN T (n + 1) f args M = ok d M' := by
  obtain ⟨e, hb⟩ := hb
  rw [call_ret h ha hb]
  unfold leave
  rw [List.take_of_length_le (by omega)]
  split <;> rfl
section
variable {n c : Nat} {M : Mem} {q : Int × Int}
theorem jar_i0 (h : c < M.length) : eIdx (mj M c q) (.cell c) (.int 0) = some (.int q.1) := by
  unfold eIdx
  simp only [mj_at h]
  rfl
theorem jar_i1 (h : c < M.length) : eIdx (mj M c q) (.cell c) (.int 1) = some (.int q.2) := by
  unfold eIdx
  simp only [mj_at h]
  rfl
theorem jar_s0 {x : Int} (h : c < M.length) : eSetI (mj M c q) (.cell c) (.int 0) (.int x) = some (mj M c (x, q.2)) := by
  unfold eSetI
  simp only [mj_at h]
  show some ((mj M c q).set c (.lst [.int x, .int q.2])) = _
  rw [show (mj M c q).set c (.lst [.int x, .int q.2]) = mj M c (x, q.2) from mj_set (r := (x, q.2))]
theorem jar_s1 {x : Int} (h : c < M.length) : eSetI (mj M c q) (.cell c) (.int 1) (.int x) = some (mj M c (q.1, x)) := by
  unfold eSetI
  simp only [mj_at h]
  show some ((mj M c q).set c (.lst [.int q.1, .int x])) = _
  rw [show (mj M c q).set c (.lst [.int q.1, .int x]) = mj M c (q.1, x) from mj_set (r := (q.1, x))]
@[simp] theorem ex_setI {cl : Calls} {o i e : CE} {env : Env} {M : Mem} : ex cl (.setI o i e) env M = (ev cl e env M).to env fun v M => (ev cl o env M).to env fun x M => (ev cl i env M).to env fun y M => match eSetI M x y v with
    | some M => some (.nx, env, M)
    | none => none := rfl
theorem dip_eq {m : Int} (h : c < M.length) (hq : jok q) (hm : 0 < m) (hm2 : m ≤ 1000) : ∃ v q', callN gi.tab (n + 1) 1 [.cell c, .int m] (mj M c q) = ok (.int v) (mj M c q') ∧ jok q' ∧ 0 ≤ v ∧ v < m := by
  have hmb : m.natAbs < 2 ^ 250 := by
    have : (1000 : Nat) < 2 ^ 250 := by decide
    omega
  obtain ⟨h0, h1, h2⟩ := hq
  by_cases g : 0 < q.1
  · refine ⟨q.1 % m, (q.1 / m, q.2), ?_, ⟨Int.ediv_nonneg h0 (by omega), h1, h2⟩, Int.emod_nonneg _ (by omega), Int.emod_lt_of_pos _ hm⟩
    refine call_exL (fd := f__law_dip.fd) rfl rfl (by rw [mj_len, mj_len]) ⟨[some (.cell c), some (.int m), some (.int (q.1 % m)), none], ?_⟩
    show exs _ b__law_dip [some (.cell c), some (.int m), none, none] (mj M c q) = _
    simp [b__law_dip, jar_i0 h, g, eMod hm, eDiv hm hmb, jar_s0 h]
  · generalize hx : (q.2 * 39373 + 1009) % 2147482943 = x
    have hx0 : 0 ≤ x := by rw [← hx]; exact Int.emod_nonneg _ (by decide)
    have hx1 : x < 2147482943 := by rw [← hx]; exact Int.emod_lt_of_pos _ (by decide)
    generalize hy : x * (x / 23 + 29) % 2147482937 = y
    have hd : 0 ≤ x / 23 := Int.ediv_nonneg hx0 (by decide)
    have big : (2147482943 * 39373 + 1009 : Nat) < 2 ^ 250 := by decide
    have m1 : ∀ M : Mem, eOp M .mul (.int q.2) (.int 39373) = some (.int (q.2 * 39373)) := fun M => eMul (by omega) (by omega)
    have m2 : ∀ M : Mem, eOp M .mul (.int x) (.int (x / 23 + 29)) = some (.int (x * (x / 23 + 29))) := fun M => eMul (by omega) (by omega)
    have m3 : ∀ M : Mem, eOp M .mod (.int (q.2 * 39373 + 1009)) (.int 2147482943) = some (.int x) := fun M => by rw [eMod (by decide), hx]
    have m4 : ∀ M : Mem, eOp M .mod (.int (x * (x / 23 + 29))) (.int 2147482937) = some (.int y) := fun M => by rw [eMod (by decide), hy]
    have m5 : ∀ M : Mem, eOp M .fdiv (.int x) (.int 23) = some (.int (x / 23)) := fun M => eDiv (by decide) (by decide)
    have m6 : ∀ M : Mem, eOp M .fdiv (.int y) (.int 29) = some (.int (y / 29)) := fun M => eDiv (by decide) (by decide)
    have j1 : eIdx (mj M c (q.1, x)) (.cell c) (.int 1) = some (.int x) := jar_i1 h
    refine ⟨y / 29 % m, (q.1, x), ?_, ⟨h0, hx0, hx1⟩, Int.emod_nonneg _ (by omega), Int.emod_lt_of_pos _ hm⟩
    refine call_exL (fd := f__law_dip.fd) rfl rfl (by rw [mj_len, mj_len]) ⟨[some (.cell c), some (.int m), none, some (.int y)], ?_⟩
    show exs _ b__law_dip [some (.cell c), some (.int m), none, none] (mj M c q) = _
    simp [b__law_dip, jar_i0 h, jar_i1 h, g, m1, m2, m3, m4, m5, m6, eMod hm, jar_s1 h, j1]
theorem atI_mem {xs : List D} {v : Int} (h0 : 0 ≤ v) (h1 : v < (xs.length : Int)) : ∃ x ∈ xs, atI xs v = some x := by
  unfold atI
  have : ixN xs.length v = some v.toNat := by
    unfold ixN
    rw [if_pos h0, if_pos (by omega)]
  rw [this]
  have hl : v.toNat < xs.length := by omega
  refine ⟨xs[v.toNat], List.getElem_mem hl, ?_⟩
  show xs[v.toNat]? = _
  rw [List.getElem?_eq_getElem hl]
theorem any_of_eq {xs : List D} (h : c < M.length) (hq : jok q) (hx : xs ≠ []) (hl : xs.length ≤ 1000) : ∃ v q', callN gi.tab (n + 2) 2 [.cell c, .lst xs] (mj M c q) = ok v (mj M c q') ∧ jok q' ∧ v ∈ xs := by
  have hpos : 0 < xs.length := by cases xs with
    | nil => exact absurd rfl hx
    | cons => simp
  obtain ⟨v, q', h1, h2, h3, h4⟩ := dip_eq (n := n) (M := M) (m := (xs.length : Int)) h hq (by omega) (by omega)
  obtain ⟨x, hxm, hat⟩ := atI_mem h3 h4
  have hi : eIdx (mj M c q') (.lst xs) (.int v) = some x := hat
  refine ⟨x, q', ?_, h2, hxm⟩
  refine call_exL (fd := f__law_any_of.fd) rfl rfl (by rw [mj_len, mj_len]) ⟨[some (.cell c), some (.lst xs)], ?_⟩
  show exs _ b__law_any_of [some (.cell c), some (.lst xs)] (mj M c q) = _
  simp [b__law_any_of, h1, hi]
end
end KK
end Rf

end S_K17Nf
section S_K17Ng
namespace Rf
namespace KK
open PySem L2
theorem forS_st {tg : Tg} {b : Env → Mem → SRes} (I : Nat → Env → Mem → Prop) (T : Nat) : ∀ (xs : List D) (i : Nat) (env : Env) (M : Mem), i + xs.length ≤ T → I i env M →
    (∀ x ∈ xs, ∀ i e M, i < T → I i e M → ∃ e1 e2 M2, asT tg x e = some e1 ∧ b e1 M = some (.nx, e2, M2) ∧ I (i + 1) e2 M2) → ∃ e M', forS tg b xs env M = some (.nx, e, M') ∧ I (i + xs.length) e M'
  | [], i, env, M, _, hI, _ => ⟨env, M, rfl, hI⟩
  | x :: xs, i, env, M, hT, hI, h => by
    rw [List.length_cons] at hT
    obtain ⟨e1, e2, M2, h1, h2, h3⟩ := h x (List.mem_cons_self ..) i env M (by omega) hI
    obtain ⟨e, M', h4, h5⟩ := forS_st I T xs (i + 1) e2 M2 (by omega) h3 fun y hy => h y (List.mem_cons_of_mem _ hy)
    refine ⟨e, M', ?_, by rw [List.length_cons]; rw [show i + (xs.length + 1) = i + 1 + xs.length by omega]; exact h5⟩
    show (match asT tg x env with
      | none => none
      | some env => match b env M with
        | some (.nx, e, M) => forS tg b xs e M
        | some (.cont, e, M) => forS tg b xs e M
        | some (.brk, e, M) => some (.nx, e, M)
        | r => r) = _
    rw [h1]
    show (match b e1 M with
        | some (.nx, e, M) => forS tg b xs e M
        | some (.cont, e, M) => forS tg b xs e M
        | some (.brk, e, M) => some (.nx, e, M)
        | r => r) = _
    rw [h2]
    exact h4
end KK
end Rf

end S_K17Ng
section S_K17Nt
namespace Rf
namespace KK
open PySem L2
section
variable {n : Nat} {M : Mem}
theorem mj_new {q : Int × Int} : M ++ [Cell.lst [.int q.1, .int q.2]] = mj (M ++ [.dead]) M.length q := by
  unfold mj
  rw [List.set_append_right _ _ (Nat.le_refl _), Nat.sub_self]
  rfl
theorem pow18 {M : Mem} : eOp M .pow (.int 10) (.int 18) = some (.int 1000000000000000000) := by
  show ePow 10 18 = _
  unfold ePow
  rw [if_pos (by decide)]; rfl
theorem jar_end {cl : Calls} {x k : Int} {env : Env} {a0 : Option D} (h0 : 0 ≤ x) (k0 : 0 ≤ k) (k1 : k ≤ 10) : ∃ q : Int × Int, jok q ∧ exs cl [.ret (.lstM (.cons (.ite (.cmp .ge (.var 2) (.bin .pow (.con (.int (10))) (.con (.int (18))))) (.var 2) (.con (.int (0)))) (.cons (.bin .mod (.bi .int (.cons (.bin .add (.bin .add (.bin .mod (.bi .int (.cons (.var 2) .nil)) (.con (.int (2147482943)))) (.bin .mul (.con (.int (60017))) (.var 1))) (.con (.int (83)))) .nil)) (.con (.int (2147482943)))) .nil)))]
    [a0, some (.int k), some (.int x)] M = some (.ret (.cell M.length), [a0, some (.int k), some (.int x)], mj (M ++ [.dead]) M.length q) := by
  have s2 : 2 ≤ sizeLine := line1 2 (by decide)
  have big : (60017 : Nat) < 2 ^ 250 := by decide
  have m1 : ∀ M : Mem, eOp M .mul (.int 60017) (.int k) = some (.int (60017 * k)) := fun M => eMul (by decide) (by omega)
  have m2 : ∀ (M : Mem) (i : Int), eOp M .mod (.int i) (.int 2147482943) = some (.int (i % 2147482943)) := fun M i => eMod (by decide)
  generalize hb : (x % 2147482943 + 60017 * k + 83) % 2147482943 = b
  have b0 : 0 ≤ b := by rw [← hb]; exact Int.emod_nonneg _ (by decide)
  have b1 : b < 2147482943 := by rw [← hb]; exact Int.emod_lt_of_pos _ (by decide)
  by_cases g : 1000000000000000000 ≤ x
  · refine ⟨(x, b), ⟨h0, b0, b1⟩, ?_⟩
    rw [← mj_new]
    have hl : D.lows 0 [.int x, .int b] = true := rfl
    simp [pow18, g, m1, m2, hb, s2, hl]
  · refine ⟨(0, b), ⟨Int.le_refl _, b0, b1⟩, ?_⟩
    rw [← mj_new]
    have hl : D.lows 0 [.int 0, .int b] = true := rfl
    simp [pow18, g, m1, m2, hb, s2, hl]
theorem jar_eq {ns : List Int} {k : Int} (k0 : 0 ≤ k) (k1 : k ≤ 10) : ∃ q : Int × Int, jok q ∧ callN gi.tab (n + 1) 0 [.scr ns, .int k] M = ok (.cell M.length) (mj (M ++ [.dead]) M.length q) := by
  have big : (60017 : Nat) < 2 ^ 250 := by decide
  have bl : ∀ M : Mem, eBi M .len [.scr ns] = some (.int ns.length) := fun _ => rfl
  have low : ∀ {M' : Mem}, leave M.length (.cell M.length) M' = ok (.cell M.length) M' := by
    intro M'
    unfold leave
    rw [if_neg]
    show ¬ (decide (M.length < M.length)) = true
    simp
  by_cases g : k < (ns.length : Int)
  · obtain ⟨i, rfl⟩ := Int.eq_ofNat_of_zero_le k0
    have hi : i < ns.length := by omega
    have hat : ∀ M : Mem, eIdx M (.scr ns) (.int (i : Int)) = some (.int ns[i]) := fun M => by
      show (atI ns (i : Int)).map _ = _
      unfold atI
      have : ixN ns.length (i : Int) = some i := by
        unfold ixN
        rw [if_pos (by omega), if_pos (by omega)]
        rfl
      rw [this]
      show (ns[i]?).map _ = _
      rw [List.getElem?_eq_getElem hi]; rfl
    obtain ⟨q, hq, he⟩ := jar_end (cl := callN gi.tab n) (M := M) (env := []) (a0 := some (.scr ns)) (k := (i : Int)) (absNN ns[i]) k0 k1
    refine ⟨q, hq, ?_⟩
    rw [call_ret (fd := f__law_jar.fd) (M' := mj (M ++ [.dead]) M.length q) (d := .cell M.length) (e := [some (.scr ns), some (.int (i : Int)), some (.int (if ns[i] < 0 then -ns[i] else ns[i]))]) rfl rfl, low]
    show exs _ b__law_jar [some (.scr ns), some (.int (i : Int)), none] M = _
    unfold b__law_jar
    rw [exs_cons]
    have g' : (i : Int) < (ns.length : Int) := g
    simp only [ex_asg, ev_ite, ev_cmp, ev_var, s_get0, s_getS, s_bind_ok, ev_bi, evs_cons, evs_nil, bl, s_lift, cLt, decide_eq_true g', Option.map_some, s_asB, if_true, ev_idx, hat, bInt1, bAbs1, s_to_ok, asT_nm, List.set_cons_succ, List.set_cons_zero, seq_nx]
    exact he
  · have m1 : ∀ M : Mem, eOp M .mul (.int 43) (.int k) = some (.int (43 * k)) := fun M => eMul (by decide) (by omega)
    obtain ⟨q, hq, he⟩ := jar_end (cl := callN gi.tab n) (M := M) (env := []) (a0 := some (.scr ns)) (k := k) (x := 43 * k + 17) (by omega) k0 k1
    refine ⟨q, hq, ?_⟩
    rw [call_ret (fd := f__law_jar.fd) (M' := mj (M ++ [.dead]) M.length q) (d := .cell M.length) (e := [some (.scr ns), some (.int k), some (.int (43 * k + 17))]) rfl rfl, low]
    show exs _ b__law_jar [some (.scr ns), some (.int k), none] M = _
    unfold b__law_jar
    rw [exs_cons]
    simp only [ex_asg, ev_ite, ev_cmp, ev_var, s_get0, s_getS, s_bind_ok, ev_bi, evs_cons, evs_nil, bl, s_lift, cLt, decide_eq_false g, Option.map_some, s_asB, Bool.false_eq_true, if_false, ev_bin, ev_con, m1, eAdd, s_to_ok, asT_nm, List.set_cons_succ, List.set_cons_zero, seq_nx]
    exact he
end
section
variable {c : Nat} {M : Mem} {q : Int × Int}
end
end KK
end Rf

end S_K17Nt
end T_K17A
section T_K17B
set_option Elab.async false
set_option linter.all false
set_option maxRecDepth 100000
set_option maxHeartbeats 4000000
namespace Rf
namespace KK
open PySem L2
section
variable {cl : Calls} {env : Env} {M : Mem}
theorem ev_mkE {x : Str} {a : CE} : ev cl (.mkE x a) env M = (ev cl a env M).bind fun _ M => ok (.exn x none) M := rfl
theorem ev_mkL {x : Str} {a : CE} : ev cl (.mkL x a) env M = (ev cl a env M).bind fun d M => mkLine x d M := rfl
theorem ev_isE {x : Str} {t : List (Str × Bool)} {a : CE} : ev cl (.isE a x t) env M = (ev cl a env M).bind fun d M => lift ((isExn t d).map .bl) M := rfl
theorem ev_isB {ys : List Str} {a : CE} : ev cl (.isB a ys) env M = (ev cl a env M).bind fun d M => lift (isBas ys d) M := rfl
theorem ev_lineE {ys : List Str} {a : CE} : ev cl (.lineE a ys) env M = (ev cl a env M).bind fun d M => lift (lineOf ys d) M := rfl
theorem mkLine_int {x : Str} {i : Int} : mkLine x (.int i) M = ok (.exn x (some i)) M := rfl
theorem mem_rangeD {m : Int} {x : D} (h : x ∈ rangeD 0 m) : ∃ k : Int, x = .int k ∧ 0 ≤ k ∧ k < m := by
  unfold rangeD at h
  obtain ⟨i, hi, rfl⟩ := List.mem_map.mp h
  rw [List.mem_range] at hi
  exact ⟨_, rfl, by omega, by omega⟩
theorem szI {n : Nat} (h : n ≤ 1000) : (n ≤ sizeLine) = True := eq_true (Nat.le_trans h (line1 1000 (by decide)))
theorem addLr {xs ys : List D} : eOp M .add (.lst xs) (.lst ys) = if xs.length + ys.length ≤ sizeLine then some (.lst (xs ++ ys)) else none := rfl
end
def nms : List Str := ["InvalidWorld", "InvalidScript", "InvalidStep", "InvalidValues", "InvalidTold", "InvalidName", "InvalidForm", "InvalidNumber", "InvalidWord", "InvalidWay", "InvalidPlace", "Unfit", "Ended", "NothingToUndo"]
def errs (v : Int) : List D := nms.map (fun x => D.exn x none) ++ [.exn "InvalidText" (some v)]
def errAt (v : Int) (j : Nat) : D := (errs v).getD j .non
def boolsAt (j : Nat) : List D := (List.range 15).map fun i => .bl (decide (i = j))
section
variable {n : Nat} {M : Mem} {v : Int} {t : D}
theorem errors_eq : callN gi.tab (n + 1) 3 [t, .int v] M = ok (.lst (errs v)) M := by
  refine call_pure (fd := f__law_all_errors.fd) (e := [some t, some (.int v), some (.lst ((errs v).take 10))]) rfl rfl ?_
  show exs _ b__law_all_errors [some t, some (.int v), none] M = _
  simp [b__law_all_errors, ev_mkE, ev_mkL, mkLine_int, szI, addLr, errs, nms]
end
end KK
end Rf
end T_K17B
section T_K17C
set_option Elab.async false
set_option linter.all false
set_option maxRecDepth 100000
set_option maxHeartbeats 8000000
namespace Rf
namespace KK
open PySem L2
section
variable {n : Nat} {M : Mem} {v : Int} {t : D}
theorem cl_0 : callN gi.tab (n + 1) 4 [(D.exn "InvalidWorld" none)] M = ok (.lst (boolsAt 0)) M := by
  refine call_pure (fd := f__law_classes.fd) (e := [some (D.exn "InvalidWorld" none), some (.lst ((boolsAt 0).take 12))]) rfl rfl ?_
  show exs (callN gi.tab n) b__law_classes [some (D.exn "InvalidWorld" none), none] M = _
  simp [b__law_classes, ev_isE, isExn, szI, addLr, List.lookup]
  first | exact ⟨rfl, rfl⟩ | rfl
theorem cl_1 : callN gi.tab (n + 1) 4 [(D.exn "InvalidScript" none)] M = ok (.lst (boolsAt 1)) M := by
  refine call_pure (fd := f__law_classes.fd) (e := [some (D.exn "InvalidScript" none), some (.lst ((boolsAt 1).take 12))]) rfl rfl ?_
  show exs (callN gi.tab n) b__law_classes [some (D.exn "InvalidScript" none), none] M = _
  simp [b__law_classes, ev_isE, isExn, szI, addLr, List.lookup]
  first | exact ⟨rfl, rfl⟩ | rfl
theorem cl_2 : callN gi.tab (n + 1) 4 [(D.exn "InvalidStep" none)] M = ok (.lst (boolsAt 2)) M := by
  refine call_pure (fd := f__law_classes.fd) (e := [some (D.exn "InvalidStep" none), some (.lst ((boolsAt 2).take 12))]) rfl rfl ?_
  show exs (callN gi.tab n) b__law_classes [some (D.exn "InvalidStep" none), none] M = _
  simp [b__law_classes, ev_isE, isExn, szI, addLr, List.lookup]
  first | exact ⟨rfl, rfl⟩ | rfl
theorem cl_3 : callN gi.tab (n + 1) 4 [(D.exn "InvalidValues" none)] M = ok (.lst (boolsAt 3)) M := by
  refine call_pure (fd := f__law_classes.fd) (e := [some (D.exn "InvalidValues" none), some (.lst ((boolsAt 3).take 12))]) rfl rfl ?_
  show exs (callN gi.tab n) b__law_classes [some (D.exn "InvalidValues" none), none] M = _
  simp [b__law_classes, ev_isE, isExn, szI, addLr, List.lookup]
  first | exact ⟨rfl, rfl⟩ | rfl
theorem cl_4 : callN gi.tab (n + 1) 4 [(D.exn "InvalidTold" none)] M = ok (.lst (boolsAt 4)) M := by
  refine call_pure (fd := f__law_classes.fd) (e := [some (D.exn "InvalidTold" none), some (.lst ((boolsAt 4).take 12))]) rfl rfl ?_
  show exs (callN gi.tab n) b__law_classes [some (D.exn "InvalidTold" none), none] M = _
  simp [b__law_classes, ev_isE, isExn, szI, addLr, List.lookup]
  first | exact ⟨rfl, rfl⟩ | rfl
theorem cl_5 : callN gi.tab (n + 1) 4 [(D.exn "InvalidName" none)] M = ok (.lst (boolsAt 5)) M := by
  refine call_pure (fd := f__law_classes.fd) (e := [some (D.exn "InvalidName" none), some (.lst ((boolsAt 5).take 12))]) rfl rfl ?_
  show exs (callN gi.tab n) b__law_classes [some (D.exn "InvalidName" none), none] M = _
  simp [b__law_classes, ev_isE, isExn, szI, addLr, List.lookup]
  first | exact ⟨rfl, rfl⟩ | rfl
theorem cl_6 : callN gi.tab (n + 1) 4 [(D.exn "InvalidForm" none)] M = ok (.lst (boolsAt 6)) M := by
  refine call_pure (fd := f__law_classes.fd) (e := [some (D.exn "InvalidForm" none), some (.lst ((boolsAt 6).take 12))]) rfl rfl ?_
  show exs (callN gi.tab n) b__law_classes [some (D.exn "InvalidForm" none), none] M = _
  simp [b__law_classes, ev_isE, isExn, szI, addLr, List.lookup]
  first | exact ⟨rfl, rfl⟩ | rfl
theorem cl_7 : callN gi.tab (n + 1) 4 [(D.exn "InvalidNumber" none)] M = ok (.lst (boolsAt 7)) M := by
  refine call_pure (fd := f__law_classes.fd) (e := [some (D.exn "InvalidNumber" none), some (.lst ((boolsAt 7).take 12))]) rfl rfl ?_
  show exs (callN gi.tab n) b__law_classes [some (D.exn "InvalidNumber" none), none] M = _
  simp [b__law_classes, ev_isE, isExn, szI, addLr, List.lookup]
  first | exact ⟨rfl, rfl⟩ | rfl
theorem cl_8 : callN gi.tab (n + 1) 4 [(D.exn "InvalidWord" none)] M = ok (.lst (boolsAt 8)) M := by
  refine call_pure (fd := f__law_classes.fd) (e := [some (D.exn "InvalidWord" none), some (.lst ((boolsAt 8).take 12))]) rfl rfl ?_
  show exs (callN gi.tab n) b__law_classes [some (D.exn "InvalidWord" none), none] M = _
  simp [b__law_classes, ev_isE, isExn, szI, addLr, List.lookup]
  first | exact ⟨rfl, rfl⟩ | rfl
theorem cl_9 : callN gi.tab (n + 1) 4 [(D.exn "InvalidWay" none)] M = ok (.lst (boolsAt 9)) M := by
  refine call_pure (fd := f__law_classes.fd) (e := [some (D.exn "InvalidWay" none), some (.lst ((boolsAt 9).take 12))]) rfl rfl ?_
  show exs (callN gi.tab n) b__law_classes [some (D.exn "InvalidWay" none), none] M = _
  simp [b__law_classes, ev_isE, isExn, szI, addLr, List.lookup]
  first | exact ⟨rfl, rfl⟩ | rfl
theorem cl_10 : callN gi.tab (n + 1) 4 [(D.exn "InvalidPlace" none)] M = ok (.lst (boolsAt 10)) M := by
  refine call_pure (fd := f__law_classes.fd) (e := [some (D.exn "InvalidPlace" none), some (.lst ((boolsAt 10).take 12))]) rfl rfl ?_
  show exs (callN gi.tab n) b__law_classes [some (D.exn "InvalidPlace" none), none] M = _
  simp [b__law_classes, ev_isE, isExn, szI, addLr, List.lookup]
  first | exact ⟨rfl, rfl⟩ | rfl
theorem cl_11 : callN gi.tab (n + 1) 4 [(D.exn "Unfit" none)] M = ok (.lst (boolsAt 11)) M := by
  refine call_pure (fd := f__law_classes.fd) (e := [some (D.exn "Unfit" none), some (.lst ((boolsAt 11).take 12))]) rfl rfl ?_
  show exs (callN gi.tab n) b__law_classes [some (D.exn "Unfit" none), none] M = _
  simp [b__law_classes, ev_isE, isExn, szI, addLr, List.lookup]
  first | exact ⟨rfl, rfl⟩ | rfl
theorem cl_12 : callN gi.tab (n + 1) 4 [(D.exn "Ended" none)] M = ok (.lst (boolsAt 12)) M := by
  refine call_pure (fd := f__law_classes.fd) (e := [some (D.exn "Ended" none), some (.lst ((boolsAt 12).take 12))]) rfl rfl ?_
  show exs (callN gi.tab n) b__law_classes [some (D.exn "Ended" none), none] M = _
  simp [b__law_classes, ev_isE, isExn, szI, addLr, List.lookup]
  first | exact ⟨rfl, rfl⟩ | rfl
theorem cl_13 : callN gi.tab (n + 1) 4 [(D.exn "NothingToUndo" none)] M = ok (.lst (boolsAt 13)) M := by
  refine call_pure (fd := f__law_classes.fd) (e := [some (D.exn "NothingToUndo" none), some (.lst ((boolsAt 13).take 12))]) rfl rfl ?_
  show exs (callN gi.tab n) b__law_classes [some (D.exn "NothingToUndo" none), none] M = _
  simp [b__law_classes, ev_isE, isExn, szI, addLr, List.lookup]
  first | exact ⟨rfl, rfl⟩ | rfl
theorem cl_14 : callN gi.tab (n + 1) 4 [(D.exn "InvalidText" (some v))] M = ok (.lst (boolsAt 14)) M := by
  refine call_pure (fd := f__law_classes.fd) (e := [some (D.exn "InvalidText" (some v)), some (.lst ((boolsAt 14).take 12))]) rfl rfl ?_
  show exs (callN gi.tab n) b__law_classes [some (D.exn "InvalidText" (some v)), none] M = _
  simp [b__law_classes, ev_isE, isExn, szI, addLr, List.lookup]
  first | exact ⟨rfl, rfl⟩ | rfl
theorem classes_eq : ∀ j : Nat, j < 15 → callN gi.tab (n + 1) 4 [errAt v j] M = ok (.lst (boolsAt j)) M
  | 0, _ => cl_0
  | 1, _ => cl_1
  | 2, _ => cl_2
  | 3, _ => cl_3
  | 4, _ => cl_4
  | 5, _ => cl_5
  | 6, _ => cl_6
  | 7, _ => cl_7
  | 8, _ => cl_8
  | 9, _ => cl_9
  | 10, _ => cl_10
  | 11, _ => cl_11
  | 12, _ => cl_12
  | 13, _ => cl_13
  | 14, _ => cl_14
  | k + 15, h => absurd h (by omega)
/-- one error's turn -/
def aBody : List CS := match b_law with
  | [.for_ _ _ [_, _, _, .for_ _ _ b, _], _] => b
  | _ => []
end
end KK
end Rf
end T_K17C
section T_K17D
set_option Elab.async false
set_option linter.all false
set_option maxRecDepth 100000
set_option maxHeartbeats 8000000
namespace Rf
namespace KK
open PySem L2
section
variable {n : Nat} {M : Mem} {v : Int} {a0 a1 a2 a5 a6 a7 : Option D}
def eqJ (j : Int) (d : D) : D := match d with
  | .int i => .bl (decide (i = j))
  | _ => .non
theorem iI {cl : Calls} {e4 : Option D} : evI cl (.rng (.bi .len (.cons (.var 3) .nil))) [a0, a1, a2, some (.lst (errs v)), e4, a5, a6, a7] M = ok (rangeD 0 15) M := by
  have hs : small62 15 = true := by decide
  have bl : ∀ M : Mem, eBi M .len [.lst (errs v)] = some (.int 15) := fun _ => rfl
  unfold evI
  simp only [ev_bi, evs_cons, evs_nil, ev_var, s_get0, s_getS, s_bind_ok, bl, s_lift, hs, if_true]
theorem lc_eq {j : Nat} (hj : j < 15) : ev (callN gi.tab (n + 1)) (.lc (.cmp .eq (.var 7) (.var 4)) (.nm 7) (.rng (.bi .len (.cons (.var 3) .nil)))) [a0, a1, a2, some (.lst (errs v)), some (.int (j : Nat)), a5, a6, a7] M = ok (.lst (boolsAt j)) M := by
  rw [ev_lc_of (xs := rangeD 0 15) (eqJ j) iI (line1 15 (by decide)) ?_]
  · congr 2
    unfold rangeD boolsAt
    rw [List.map_map]
    refine List.map_congr_left fun i hi => ?_
    show D.bl (decide ((0 : Int) + (i : Nat) = (j : Nat))) = D.bl (decide (i = j))
    congr 1
    by_cases h : i = j
    · subst h; simp
    · rw [decide_eq_false h, decide_eq_false (by omega)]
  · intro x hx
    obtain ⟨k, rfl, _, _⟩ := mem_rangeD hx
    simp [eqJ]
theorem err_ix {j : Nat} (hj : j < 15) : eIdx M (.lst (errs v)) (.int (j : Nat)) = some (errAt v j) := by
  show atI (errs v) (j : Nat) = _
  unfold atI ixN
  rw [if_pos (Int.natCast_nonneg j), if_pos (by show (j : Int) < (15 : Nat); omega)]
  show (errs v)[j]? = some ((errs v).getD j .non)
  rw [List.getD_eq_getElem?_getD, List.getElem?_eq_getElem (show j < (errs v).length from hj)]
  rfl
theorem bools_ne : ∀ j : Nat, j < 15 → eCo .ne (.lst (boolsAt j)) (.lst (boolsAt j)) = some false := by decide +kernel
theorem base_at : ∀ j : Nat, j < 15 → exs (callN gi.tab (n + 1)) [aBody.getD 1 .pass] [a0, a1, a2, some (.lst (errs v)), some (.int (j : Nat)), a5, a6, a7] M = some (.nx, [a0, a1, a2, some (.lst (errs v)), some (.int (j : Nat)), a5, a6, a7], M)
  | 0, _ => by rfl
  | 1, _ => by rfl
  | 2, _ => by rfl
  | 3, _ => by rfl
  | 4, _ => by rfl
  | 5, _ => by rfl
  | 6, _ => by rfl
  | 7, _ => by rfl
  | 8, _ => by rfl
  | 9, _ => by rfl
  | 10, _ => by rfl
  | 11, _ => by rfl
  | 12, _ => by rfl
  | 13, _ => by rfl
  | 14, _ => by rfl
  | k + 15, h => absurd h (by omega)
theorem aB : aBody = .ite (.cmp .ne (.call 4 (.cons (.idx (.var 3) (.var 4)) .nil) []) (.lc (.cmp .eq (.var 7) (.var 4)) (.nm 7) (.rng (.bi .len (.cons (.var 3) .nil))))) [.ret (.con (.bl false))] [] :: [aBody.getD 1 .pass] := rfl
theorem turn_at {j : Nat} (hj : j < 15) : exs (callN gi.tab (n + 1)) aBody [a0, a1, a2, some (.lst (errs v)), some (.int (j : Nat)), a5, a6, a7] M = some (.nx, [a0, a1, a2, some (.lst (errs v)), some (.int (j : Nat)), a5, a6, a7], M) := by
  rw [aB, exs_cons, ex_ite, ev_cmp]
  simp only [lc_eq hj, ev_call, evs_cons, evs_nil, ev_idx, ev_var, s_getS, s_get0, s_bind_ok, err_ix hj, s_lift, List.append_nil, classes_eq j hj, bools_ne j hj, Option.map_some, s_asB, s_to_ok, Bool.false_eq_true, if_false, exs_nil, seq_nx]
  exact base_at j hj
theorem loop_at {e4 : Option D} : ∃ e4', forS (.nm 4) (exs (callN gi.tab (n + 1)) aBody) (rangeD 0 15) [a0, a1, a2, some (.lst (errs v)), e4, a5, a6, a7] M = some (.nx, [a0, a1, a2, some (.lst (errs v)), e4', a5, a6, a7], M) := by
  obtain ⟨e, M', h, e4', rfl, rfl⟩ := forS_st (tg := .nm 4) (b := exs (callN gi.tab (n + 1)) aBody) (fun i e M' => ∃ e4', e = [a0, a1, a2, some (.lst (errs v)), e4', a5, a6, a7] ∧ M' = M) 15 (rangeD 0 15) 0 [a0, a1, a2, some (.lst (errs v)), e4, a5, a6, a7] M (by decide) ⟨_, rfl, rfl⟩ (by
    intro x hx i e M1 _ hi
    obtain ⟨b, rfl, rfl⟩ := hi
    obtain ⟨k, rfl, k0, k1⟩ := mem_rangeD hx
    obtain ⟨j, rfl⟩ := Int.eq_ofNat_of_zero_le k0
    exact ⟨_, _, _, rfl, turn_at (by omega), _, rfl, rfl⟩)
  exact ⟨e4', h⟩
end
/-- a round of the law -/
def kBody : List CS := match b_law with
  | [.for_ _ _ b, _] => b
  | _ => []
section
variable {M : Mem} {ns : List Int} {a2 a3 a4 a5 a6 a7 : Option D}
theorem line_ix {v : Int} {M : Mem} : eIdx M (.lst (errs v)) (.int 14) = some (.exn "InvalidText" (some v)) := rfl
theorem kBody_eq {k : Int} (k0 : 0 ≤ k) (k1 : k ≤ 10) : ∃ c2 c3 c4 c5 c6 M2, exs (callN gi.tab 59) kBody [some (.scr ns), some (.int k), a2, a3, a4, a5, a6, none] M = some (.nx, [some (.scr ns), some (.int k), c2, c3, c4, c5, c6, none], M2) := by
  obtain ⟨q, hq, h1⟩ := jar_eq (n := 58) (M := M) (ns := ns) k0 k1
  have hl : M.length < (M ++ [Cell.dead]).length := by simp
  obtain ⟨t, q1, h2, hq1, ht⟩ := any_of_eq (n := 57) (M := M ++ [Cell.dead]) (c := M.length) (xs := [.str "", .str "a message", .str "x y"]) hl hq (by simp) (by simp)
  obtain ⟨v, q2, h3, hq2, v0, v1⟩ := dip_eq (n := 58) (M := M ++ [Cell.dead]) (c := M.length) (m := 1000) hl hq1 (by decide) (by decide)
  obtain ⟨e4, h4⟩ := loop_at (n := 58) (M := mj (M ++ [.dead]) M.length q2) (v := v) (a0 := some (.scr ns)) (a1 := some (.int k)) (a2 := some (.cell M.length)) (e4 := a4) (a5 := some t) (a6 := some (.int v)) (a7 := none)
  have hI : evI (callN gi.tab 59) (.rng (.bi .len (.cons (.var 3) .nil))) [some (.scr ns), some (.int k), some (.cell M.length), some (.lst (errs v)), a4, some t, some (.int v), none] (mj (M ++ [.dead]) M.length q2) = ok (rangeD 0 15) (mj (M ++ [.dead]) M.length q2) := iI
  refine ⟨some (.cell M.length), some (.lst (errs v)), e4, some t, some (.int v), mj (M ++ [.dead]) M.length q2, ?_⟩
  show exs _ [_, _, _, .for_ (.nm 4) (.rng (.bi .len (.cons (.var 3) .nil))) aBody, _] _ _ = _
  simp only [exs_cons, ex_asg, ev_call, evs_cons, evs_nil, ev_var, ev_con, s_get0, s_getS, s_bind_ok, List.append_nil, List.cons_append, List.nil_append, h1, s_to_ok, asT_nm, List.set_cons_zero, List.set_cons_succ, seq_nx, ev_tup, ev_lst, szI (show [D.str "", D.str "a message", D.str "x y"].length ≤ 1000 by decide), if_true, h2, h3,
    szI (show [t, D.int v].length ≤ 1000 by simp), asT_tp, asTs_cons, asTs_nil, errors_eq, ex_for, hI, h4, ex_ite, ev_cmp, ev_lineE, ev_idx, line_ix, s_lift]
  have hL : lineOf ["InvalidText"] (.exn "InvalidText" (some v)) = some (.int v) := rfl
  simp [hL]
theorem law_split : b_law = [.for_ (.nm 1) (.rng (.bi .max2 (.cons (.con (.int (3))) (.cons (.bi .min2 (.cons (.con (.int (6))) (.cons (.bin .add (.bi .len (.cons (.var 0) .nil)) (.con (.int (2)))) .nil))) .nil)))) kBody, .ret (.con (.bl true))] := rfl
end
theorem law_true : ∀ ns : List Int, ns.length ≤ 63 → ∃ M, callN gi.tab 60 5 [.scr ns] [] = some (.ok (.bl true) M) := by
  intro ns hns
  have bl : ∀ M : Mem, eBi M .len [.scr ns] = some (.int ns.length) := fun _ => rfl
  have bmin : ∀ (M : Mem) (i j : Int), eBi M .min2 [.int i, .int j] = some (.int (if j < i then j else i)) := fun _ _ _ => rfl
  have bmax : ∀ (M : Mem) (i j : Int), eBi M .max2 [.int i, .int j] = some (.int (if j > i then j else i)) := fun _ _ _ => rfl
  generalize hm : (if (if (ns.length : Int) + 2 < 6 then (ns.length : Int) + 2 else 6) > 3 then (if (ns.length : Int) + 2 < 6 then (ns.length : Int) + 2 else 6) else 3) = m
  have hm0 : 0 ≤ m ∧ m ≤ 10 := by rw [← hm]; split <;> split <;> omega
  have hI : evI (callN gi.tab 59) (.rng (.bi .max2 (.cons (.con (.int (3))) (.cons (.bi .min2 (.cons (.con (.int (6))) (.cons (.bin .add (.bi .len (.cons (.var 0) .nil)) (.con (.int (2)))) .nil))) .nil)))) [some (.scr ns), none, none, none, none, none, none, none] [] = ok (rangeD 0 m) [] := by
    have hs : small62 m = true := by
      unfold small62
      rw [decide_eq_true (by omega), decide_eq_true (by omega)]; rfl
    unfold evI
    simp only [ev_bi, evs_cons, evs_nil, ev_con, ev_bin, ev_var, s_get0, s_bind_ok, bl, s_lift, eAdd, bmin, bmax, hm, hs, if_true]
  have hlen : (rangeD 0 m).length ≤ 10 := by unfold rangeD; simp; omega
  obtain ⟨e, M', hl, b1, b2, b3, b4, b5, b6, rfl⟩ := forS_st (tg := .nm 1) (b := exs (callN gi.tab 59) kBody)
    (fun i e M' => ∃ b1 b2 b3 b4 b5 b6, e = [some (.scr ns), b1, b2, b3, b4, b5, b6, none]) 10
    (rangeD 0 m) 0 [some (.scr ns), none, none, none, none, none, none, none] [] (by omega) ⟨_, _, _, _, _, _, rfl⟩ (by
      intro x hx i e M' hi2 hi
      obtain ⟨b1, b2, b3, b4, b5, b6, rfl⟩ := hi
      obtain ⟨k, rfl, k0, k1⟩ := mem_rangeD hx
      obtain ⟨c2, c3, c4, c5, c6, M2, h1⟩ := kBody_eq (M := M') (ns := ns) (k := k) (a2 := b2) (a3 := b3) (a4 := b4) (a5 := b5) (a6 := b6) k0 (by omega)
      exact ⟨_, _, _, rfl, h1, _, _, _, _, _, _, rfl⟩)
  have hb : exs (callN gi.tab 59) b_law [some (.scr ns), none, none, none, none, none, none, none] [] = some (.ret (.bl true), [some (.scr ns), b1, b2, b3, b4, b5, b6, none], M') := by
    rw [law_split, exs_cons, ex_for, hI]
    simp only [s_to_ok]
    rw [hl, seq_nx]
    rfl
  refine ⟨M'.take 0, ?_⟩
  rw [call_ret (n := 59) (fd := f_law.fd) (M' := M') (d := .bl true) (e := [some (.scr ns), b1, b2, b3, b4, b5, b6, none]) rfl rfl hb]
  exact leave_low rfl
end KK
end Rf
end T_K17D
set_option Elab.async false
set_option linter.all false
set_option maxRecDepth 100000
namespace Rf
namespace KK
open PySem PySem.Spec PyProof.Rows L2

theorem gi_fns : gi.fns = fns := rfl
theorem bd__law_jar : BindOk f__law_jar := bind_n rfl rfl fun _ _ _ _ _ _ us hl => match us, hl with | [_, _], _ => rfl
theorem bd__law_dip : BindOk f__law_dip := bind_n rfl rfl fun _ _ _ _ _ _ us hl => match us, hl with | [_, _], _ => rfl
theorem bd__law_any_of : BindOk f__law_any_of := bind_n rfl rfl fun _ _ _ _ _ _ us hl => match us, hl with | [_, _], _ => rfl
theorem bd__law_all_errors : BindOk f__law_all_errors := bind_n rfl rfl fun _ _ _ _ _ _ us hl => match us, hl with | [_, _], _ => rfl
theorem bd__law_classes : BindOk f__law_classes := bind_n rfl rfl fun _ _ _ _ _ _ us hl => match us, hl with | [_], _ => rfl
theorem bd_law : BindOk f_law := bind_n rfl rfl fun _ _ _ _ _ _ us hl => match us, hl with | [_], _ => rfl
theorem bd_all : ∀ cf ∈ gi.fns, BindOk cf := by
  intro cf h
  have h : cf ∈ fns := h
  unfold fns at h
  rcases List.mem_cons.mp h with rfl | h
  · exact bd__law_jar
  rcases List.mem_cons.mp h with rfl | h
  · exact bd__law_dip
  rcases List.mem_cons.mp h with rfl | h
  · exact bd__law_any_of
  rcases List.mem_cons.mp h with rfl | h
  · exact bd__law_all_errors
  rcases List.mem_cons.mp h with rfl | h
  · exact bd__law_classes
  rcases List.mem_cons.mp h with rfl | h
  · exact bd_law
  cases h
theorem chk : chkAll gi = true := by decide +kernel
def nm0 : List PySem.Str := ["LengthError", "InvalidWorld", "InvalidScript", "InvalidStep", "InvalidValues", "InvalidTold", "InvalidName", "InvalidForm", "InvalidNumber", "InvalidWord", "InvalidWay", "InvalidPlace", "Unfit", "Ended", "NothingToUndo", "InvalidText", "_law_jar", "_law_dip", "_law_any_of", "_law_all_errors", "_law_classes"]
def topNames : List PySem.Str := nm0
abbrev RR : PySem.W.OpenRow := PySem.W.OpenLaw.row PySem.Challenge.rw_copiedlengths_k17_errors_and_their_class
abbrev hk : PySem.W.Hook := hookZ gi
def ob (s : PySem.W.SharedT) : AlZ := obsZ gi (HandSHeadRun.getT s)
theorem ob_eq (s : PySem.W.SharedT) : ob s = hk.obs s.abs := obsZ_eq (HandSHeadRun.getT_eq s)
set_option maxHeartbeats 0 in
theorem run (w : World) : HandSHeadRun.RunEq RR (PySem.W.view RR.prog [23]) hk ob 4000 topNames w := by
  intro os
  kernel_rfl
end KK
end Rf
open PySem PySem.W PySem.Calls PyProof.Rows
set_option maxHeartbeats 0 in
theorem PySem.Challenge.cw_copiedlengths_k17_errors_and_their_class_holds : PySem.Challenge.rw_copiedlengths_k17_errors_and_their_class.Holds := by
  w_on; o_law
  refine HandSHeadRun.head_any (r := OpenLaw.row PySem.Challenge.rw_copiedlengths_k17_errors_and_their_class) (q := view (OpenLaw.row PySem.Challenge.rw_copiedlengths_k17_errors_and_their_class).prog [23]) (H := Rf.KK.hk) (ob := Rf.KK.ob) (M := 4000) (loose := Rf.KK.topNames) (d := HandSHeadRun.topDef (OpenLaw.row PySem.Challenge.rw_copiedlengths_k17_errors_and_their_class).prog 23) (kwd := []) Rf.KK.ob_eq
    (by kernel_rfl) (fun s => by kernel_rfl) Rf.KK.run (by kernel_rfl) (by kernel_rfl) (by kernel_rfl) (by rfl) (by first | assumption | decide +kernel) (by decide +kernel) ⟨rfl, rfl, rfl, rfl, rfl, by decide +kernel⟩ ?hw ?hc
  case hw => w_witness2
  case hc =>
    exact Rf.law_end (l := PySem.Challenge.rw_copiedlengths_k17_errors_and_their_class) (g := Rf.KK.gi) (k := 60) (f := 5) (cf := Rf.KK.f_law) (n := 63) rfl (by decide) (by kernel_rfl) ⟨rfl, by decide, by decide⟩ rfl rfl (by kernel_rfl) (List.mem_cons_self ..) Rf.KK.chk (fun _ => ⟨by rfl, by rfl⟩) Rf.KK.bd_all Rf.KK.law_true
      (fun K adr fd F s u => L2.FunD.bindsA (ps := Rf.KK.f_law.ps) F (fun _ _ _ _ _ _ us hl => match us, hl with | [_], _ => rfl) s [u] rfl)

